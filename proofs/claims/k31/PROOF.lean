import PyProof.Rows.All
import Wide.All
import OpenK.AllK
import Wide.FinOn
import KE.KStateDown
import Lean
import HandS.ForMost
import HandS.Wide
import HandS.IsInst
import HandS.Words
import HandS.WordsExc
import HandS.Defaults
import HandS.Head0
import HandS.Head1
import HandS.Head2
import HandS.HeadEnd
import HandS.HeadHook1
import HandS.HeadHook2
import PyProof.ListRange
import HandS.Call
import HandS.ClsMeth
import HandS.Deep
import HandS.Dict
import HandS.EndBits
import HandS.ExcIs
import HandS.Finally
import HandS.Flow
import HandS.Iter
import HandS.List
import HandS.ListEq
import HandS.More
import HandS.Rev
import HandS.RevRange
import HandS.SetKeys
import HandS.StrMore
import HandS.Style
import HandS.Text
import HandS.TryOnly
import HandS.TupAny
import HandS.WideBits
import HandS.WordsDict
import KE.DataFind
import KE.DataMinMax
import KE.DatumOrd
import KE.GoesMore
import KE.IntBitsLaws
import KE.KDictLaws
import KE.KDictSum
import KE.KEqDict
import KE.KEqNest
import KE.KTupSum
import KE.SortData
import OpenK.KMake
import PyProof.Draws
import PyProof.EnumMake
import PyProof.FitsBits
import PyProof.NeKinds
import PyProof.P3Eq
import PyProof.Rows.RuleB_pow
import PyProof.SliceList
import PyProof.StrBlock2
import PySem.Challenge.RW_shownranks_k31_layers_poured
set_option Elab.async false
set_option linter.all false
set_option maxRecDepth 100000
set_option maxHeartbeats 4000000

/-! A layer of pure values over the hand layer: what an expression is worth, as a plain Lean value, while the heap only grows. -/
namespace PL
open PySem PySem.Spec PyProof.Rows L2

structure Rel (α : Type) where
  rd : Hp → V → α → Prop
  mono : ∀ {G G' : Hp} {v : V} {x : α}, Same G G' → rd G v x → rd G' v x

theorem seqT {K : PySem.W.Frag} {H H' : Hp} {a : Addr} {xs : List V} (e : Same H H') (h : SqT K H a xs) : SqT K H' a xs := by
  rcases h with (h | ⟨o, h⟩) | h
  · exact .inl (.inl (e _ _ h))
  · exact .inl (.inr ⟨o, e _ _ h⟩)
  · exact .inr h
def SmF (G H : Hp) : Prop := ∀ b u, G b = some u → H b = some u ∨ ∃ o us, u = .dK us ∧ H b = some (.frz o u)
theorem _root_.L2.Same.smf {G H : Hp} (h : Same G H) : SmF G H := fun b u e => .inl (h b u e)
theorem SmF.free {G H : Hp} (s : SmF G H) {b : Addr} (h : H b = none) : G b = none := by
  cases e : G b with
  | none => rfl
  | some u =>
    rcases s b u e with q | ⟨o, us, _, q⟩ <;> rw [h] at q <;> cases q
theorem SmF.at {G H : Hp} (s : SmF G H) {b : Addr} {u : HO} (h : G b = some u) (hn : ∀ us, u ≠ .dK us) : H b = some u := (s b u h).elim id fun ⟨_, us, q, _⟩ => absurd q (hn us)
theorem SmF.ins {G H : Hp} (s : SmF G H) {b C dx : Addr} {fs : List (Str × V)} (h : G b = some (.ins C dx fs)) : H b = some (.ins C dx fs) := s.at h fun _ z => by cases z
theorem SmF.own {G H : Hp} (s : SmF G H) {b o : Addr} (h : G b = some (.own o)) : H b = some (.own o) := s.at h fun _ z => by cases z
theorem SmF.dk {G H : Hp} (s : SmF G H) {b : Addr} {us : List (Key × V)} (h : G b = some (.dK us)) : Rd H b (.dK us) := (s b _ h).elim .inl fun ⟨o, _, _, q⟩ => .inr ⟨o, q⟩
theorem DGr {H : Hp} {a : Addr} {kvs : List (Key × V)} {k : Key} (e : Rd H a (.dK kvs)) : DGet H a (kV k) (valV kvs k) := .inl ⟨kvs, k, e, rfl, rfl⟩
theorem SmF.seq {K : PySem.W.Frag} {G H : Hp} {a : Addr} {xs : List V} (s : SmF G H) (h : SqL K G a xs) : SqL K H a xs := by
  rcases h with (h | ⟨o, h⟩) | h
  · exact .inl (.inl (s.at h fun _ z => by cases z))
  · exact .inl (.inr ⟨o, s.at h fun _ z => by cases z⟩)
  · exact .inr h
theorem SmF.seqT {K : PySem.W.Frag} {G H : Hp} {a : Addr} {xs : List V} (s : SmF G H) (h : SqT K G a xs) : SqT K H a xs := by
  rcases h with (h | ⟨o, h⟩) | h
  · exact .inl (.inl (s.at h fun _ z => by cases z))
  · exact .inl (.inr ⟨o, s.at h fun _ z => by cases z⟩)
  · exact .inr h
theorem SmF.updo {F H : Hp} {o : Addr} {u : HO} (hF : F o = none) (s : SmF F H) : SmF F (upd H o u) := fun b x e => by
  rw [upd_ne (ne_of_none e hF)]
  exact s b x e
theorem SmF.trans {A B C : Hp} (s : SmF A B) (t : Same B C) : SmF A C := fun b u e => (s b u e).elim (fun q => .inl (t _ _ q)) fun ⟨o, us, h, q⟩ => .inr ⟨o, us, h, t _ _ q⟩
theorem _root_.L2.Same.trf {A B C : Hp} (s : Same A B) (t : SmF B C) : SmF A C := fun b u e => t b u (s b u e)
theorem pmono {α β : Type} {F F' : α → β → Prop} (h : ∀ a b, F a b → F' a b) : ∀ {l : List α} {m : List β}, Paired F l m → Paired F' l m
  | _, _, .nil => .nil
  | _, _, .cons x t => .cons (h _ _ x) (pmono h t)
theorem plen {α β : Type} {F : α → β → Prop} : ∀ {l : List α} {m : List β}, Paired F l m → l.length = m.length
  | _, _, .nil => rfl
  | _, _, .cons _ t => by rw [List.length_cons, List.length_cons, plen t]
theorem pget {α β : Type} {F : α → β → Prop} : ∀ {l : List α} {m : List β} {i : Nat} {x : α}, Paired F l m → l[i]? = some x → ∃ y, m[i]? = some y ∧ F x y
  | _, _, _, _, .nil, e => by simp at e
  | _, _, 0, _, .cons r _, e => by simp at e; subst e; exact ⟨_, rfl, r⟩
  | _, _, i + 1, x, .cons _ t, e => by
    obtain ⟨u, h1, h2⟩ := pget (i := i) (x := x) t (by simpa using e)
    exact ⟨u, by simpa using h1, h2⟩
theorem pget' {α β : Type} {F : α → β → Prop} : ∀ {l : List α} {m : List β} {i : Nat} {y : β}, Paired F l m → m[i]? = some y → ∃ x, l[i]? = some x ∧ F x y
  | _, _, _, _, .nil, e => by simp at e
  | _, _, 0, _, .cons r _, e => by simp at e; subst e; exact ⟨_, rfl, r⟩
  | _, _, i + 1, x, .cons _ t, e => by
    obtain ⟨u, h1, h2⟩ := pget' (i := i) (y := x) t (by simpa using e)
    exact ⟨u, by simpa using h1, h2⟩
theorem psnoc {α β : Type} {F : α → β → Prop} {a : α} {b : β} : ∀ {l : List α} {m : List β}, Paired F l m → F a b → Paired F (l ++ [a]) (m ++ [b])
  | _, _, .nil, h => .cons h .nil
  | _, _, .cons x t, h => .cons x (psnoc t h)
theorem papp {α β : Type} {F : α → β → Prop} : ∀ {l l' : List α} {m m' : List β}, Paired F l m → Paired F l' m' → Paired F (l ++ l') (m ++ m')
  | _, _, _, _, .nil, h => h
  | _, _, _, _, .cons x t, h => .cons x (papp t h)
theorem pset {α β : Type} {F : α → β → Prop} {a : α} {b : β} (h : F a b) : ∀ (n : Nat) {l : List α} {m : List β}, Paired F l m → Paired F (l.set n a) (m.set n b)
  | _, _, _, .nil => .nil
  | 0, _, _, .cons _ t => .cons h t
  | n + 1, _, _, .cons x t => .cons x (pset h n t)
theorem pmap {α β : Type} {f : β → α} {F : α → β → Prop} (h : ∀ a b, F a b → a = f b) : ∀ {l : List α} {m : List β}, Paired F l m → l = m.map f
  | _, _, .nil => rfl
  | _, _, .cons x t => by rw [List.map_cons, ← pmap h t, h _ _ x]
theorem pof {α β : Type} {f : β → α} {F : α → β → Prop} (h : ∀ b, F (f b) b) : ∀ (m : List β), Paired F (m.map f) m
  | [] => .nil
  | _ :: m => .cons (h _) (pof h m)

def rI : Rel Int := ⟨fun _ v x => v = .int x, fun _ h => h⟩
def rB : Rel Bool := ⟨fun _ v x => v = .bl x, fun _ h => h⟩
def rN : Rel Unit := ⟨fun _ v _ => v = .non, fun _ h => h⟩
def rRef : Rel Addr := ⟨fun _ v x => v = .ref x, fun _ h => h⟩
def rL {α : Type} (K : PySem.W.Frag) (r : Rel α) : Rel (List α) :=
  ⟨fun G v xs => ∃ a vs, v = .ref a ∧ SqL K G a vs ∧ Paired (r.rd G) vs xs ∧ xs.length ≤ sizeLine, fun e ⟨a, vs, h1, h2, h3, h4⟩ => ⟨a, vs, h1, e.seq h2, pmono (fun _ _ => r.mono e) h3, h4⟩⟩
def rTL {α : Type} (K : PySem.W.Frag) (r : Rel α) : Rel (List α) :=
  ⟨fun G v xs => ∃ a vs, v = .ref a ∧ SqT K G a vs ∧ Paired (r.rd G) vs xs ∧ xs.length ≤ sizeLine, fun e ⟨a, vs, h1, h2, h3, h4⟩ => ⟨a, vs, h1, seqT e h2, pmono (fun _ _ => r.mono e) h3, h4⟩⟩
def rT2 {α β : Type} (K : PySem.W.Frag) (r : Rel α) (s : Rel β) : Rel (α × β) :=
  ⟨fun G v x => ∃ a v1 v2, v = .ref a ∧ SqT K G a [v1, v2] ∧ r.rd G v1 x.1 ∧ s.rd G v2 x.2, fun e ⟨a, v1, v2, h1, h2, h3, h4⟩ => ⟨a, v1, v2, h1, seqT e h2, r.mono e h3, s.mono e h4⟩⟩
def rT3 {α β γ : Type} (K : PySem.W.Frag) (r : Rel α) (s : Rel β) (t : Rel γ) : Rel (α × β × γ) :=
  ⟨fun G v x => ∃ a v1 v2 v3, v = .ref a ∧ SqT K G a [v1, v2, v3] ∧ r.rd G v1 x.1 ∧ s.rd G v2 x.2.1 ∧ t.rd G v3 x.2.2, fun e ⟨a, v1, v2, v3, h1, h2, h3, h4, h5⟩ => ⟨a, v1, v2, v3, h1, seqT e h2, r.mono e h3, s.mono e h4, t.mono e h5⟩⟩
def rO {α : Type} (r : Rel α) : Rel (Option α) :=
  ⟨fun G v x => (v = .non ∧ x = none) ∨ ∃ y, x = some y ∧ r.rd G v y, fun e h => h.elim .inl fun ⟨y, h1, h2⟩ => .inr ⟨y, h1, r.mono e h2⟩⟩

structure Ext (G H G' H' : Hp) : Prop where
  g : Same G G'
  s : SmF G' H'
  h : Same H H'
  n : ∀ b, H b ≠ none → G b = none → G' b = none
theorem Ext.refl {G H : Hp} (h : SmF G H) : Ext G H G H := ⟨Same.refl _, h, Same.refl _, fun _ _ z => z⟩
theorem nn_same {H H' : Hp} (h : Same H H') {b : Addr} (e : H b ≠ none) : H' b ≠ none := by
  cases q : H b with
  | none => exact absurd q e
  | some o => rw [h b o q]; exact fun z => by cases z
theorem Ext.trans {G H G1 H1 G2 H2 : Hp} (a : Ext G H G1 H1) (b : Ext G1 H1 G2 H2) : Ext G H G2 H2 :=
  ⟨a.g.trans b.g, b.s, a.h.trans b.h, fun c e z => b.n c (nn_same a.h e) (a.n c e z)⟩
theorem same_upd {H : Hp} {p : Addr} {o : HO} (h : H p = none) : Same H (upd H p o) := fun b x e => by
  rw [upd_ne (ne_of_none e h)]; exact e
theorem same_upd2 {G H : Hp} {p : Addr} {o : HO} (h : SmF G H) : SmF (upd G p o) (upd H p o) := fun b x e => by
  by_cases hb : b = p
  · subst hb; rw [upd_same] at e ⊢; exact .inl e
  · rw [upd_ne hb] at e ⊢; exact h b x e
theorem Ext.new {G H : Hp} {p : Addr} {o : HO} (h : SmF G H) (np : H p = none) : Ext G H (upd G p o) (upd H p o) :=
  ⟨same_upd (h.free np), same_upd2 h, same_upd np, fun b e z => by
    have hb : b ≠ p := fun q => e (q ▸ np)
    rw [upd_ne hb]; exact z⟩
theorem Ext.newM {G H : Hp} {p : Addr} {o : HO} (h : SmF G H) (np : H p = none) : Ext G H G (upd H p o) :=
  ⟨Same.refl _, h.trans (same_upd np), same_upd np, fun _ _ z => z⟩

inductive Slot : Type 1
  | any : Slot
  | val {α : Type} (r : Rel α) (x : α) : Slot
def Slot.ok (G : Hp) (ov : Option V) : Slot → Prop
  | .any => True
  | .val r x => ∃ v, ov = some v ∧ r.rd G v x
theorem Slot.ok_mono {G G' : Hp} {ov : Option V} (e : Same G G') : ∀ {s : Slot}, s.ok G ov → s.ok G' ov
  | .any, _ => trivial
  | .val r _, ⟨v, h1, h2⟩ => ⟨v, h1, r.mono e h2⟩
abbrev Text := List Nat
def mkS (x : Text) : Str := ⟨x.toArray⟩
def okT (x : Text) : Prop := x.length ≤ sizeLine ∧ ∀ c ∈ x, c < 1114112
inductive Cell : Type 1
  | lst {α : Type} (o : Addr) (r : Rel α) (xs : List α) : Cell
  | dic {α : Type} (o : Addr) (r : Rel α) (kvs : List (Text × α)) : Cell
  | ins (o dx C : Addr) (fs : List (Str × Slot)) : Cell
def Cell.addr : Cell → Addr
  | .lst o _ _ => o
  | .dic o _ _ => o
  | .ins o _ _ _ => o
def ent {α : Type} (r : Rel α) (G : Hp) (q : Key × V) (p : Text × α) : Prop := q.1 = Sum.inr (mkS p.1) ∧ r.rd G q.2 p.2 ∧ okT p.1
inductive Flds (G : Hp) : List (Str × V) → List (Str × Slot) → Prop
  | nil : Flds G [] []
  | cons {n : Str} {v : V} {s : Slot} {vs : List (Str × V)} {fs : List (Str × Slot)} : s.ok G (some v) → Flds G vs fs → Flds G ((n, v) :: vs) ((n, s) :: fs)
theorem Flds.mono {G G' : Hp} (e : Same G G') : ∀ {vs : List (Str × V)} {fs : List (Str × Slot)}, Flds G vs fs → Flds G' vs fs
  | _, _, .nil => .nil
  | _, _, .cons h t => .cons (Slot.ok_mono e h) (Flds.mono e t)
def Cell.is (G : Hp) (u : HO) : Cell → Prop
  | .lst _ r xs => ∃ vs, u = .lst vs ∧ Paired (r.rd G) vs xs ∧ xs.length ≤ sizeLine
  | .dic _ r kvs => ∃ us, u = .dK us ∧ Paired (ent r G) us kvs ∧ kvs.length ≤ sizeLine ∧ (kvs.map (·.1)).Nodup
  | .ins o dx C fs => G dx = some (.own o) ∧ ∃ vfs, u = .ins C dx vfs ∧ Flds G vfs fs
def Cell.ok (H0 G H : Hp) (c : Cell) : Prop := H0 c.addr = none ∧ G c.addr = none ∧ ∃ u, H c.addr = some u ∧ c.is G u
theorem Cell.is_mono {G G' : Hp} {u : HO} (e : Same G G') : ∀ {c : Cell}, c.is G u → c.is G' u
  | .lst _ r xs, ⟨vs, h1, h2, h3⟩ => ⟨vs, h1, pmono (fun _ _ => r.mono e) h2, h3⟩
  | .dic _ r xs, ⟨vs, h1, h2, h3⟩ => ⟨vs, h1, pmono (fun _ _ h => ⟨h.1, r.mono e h.2.1, h.2.2⟩) h2, h3⟩
  | .ins o dx C fs, ⟨h0, vs, h1, h2⟩ => ⟨e _ _ h0, vs, h1, h2.mono e⟩
theorem Cell.ok_ext {H0 G H G' H' : Hp} (e : Ext G H G' H') {c : Cell} (h : c.ok H0 G H) : c.ok H0 G' H' := by
  obtain ⟨h0, h1, u, h2, h3⟩ := h
  exact ⟨h0, e.n _ (by rw [h2]; exact fun z => by cases z) h1, u, e.h _ _ h2, Cell.is_mono e.g h3⟩
theorem Cell.ok_upd {H0 G H : Hp} {c : Cell} {o : Addr} {u : HO} (h : c.ok H0 G H) (hne : c.addr ≠ o) : c.ok H0 G (upd H o u) := by
  obtain ⟨h0, h1, v, h2, h3⟩ := h
  exact ⟨h0, h1, v, by rw [upd_ne hne]; exact h2, h3⟩
theorem Cell.ok_G {H0 G G' H : Hp} {c : Cell} (h : c.ok H0 G H) (e : Same G G') (hn : G' c.addr = none) : c.ok H0 G' H := by
  obtain ⟨h0, h1, v, h2, h3⟩ := h
  exact ⟨h0, hn, v, h2, Cell.is_mono e h3⟩
theorem Cell.ok_lst {H0 G H : Hp} {α : Type} {o : Addr} {r : Rel α} {xs : List α} (h : (Cell.lst o r xs).ok H0 G H) : H0 o = none ∧ G o = none ∧ ∃ vs, H o = some (.lst vs) ∧ Paired (r.rd G) vs xs ∧ xs.length ≤ sizeLine := by
  obtain ⟨h0, h1, u, h2, vs, rfl, h3, h4⟩ := h
  exact ⟨h0, h1, vs, h2, h3, h4⟩
theorem Cell.lst_ok {H0 G H : Hp} {α : Type} {o : Addr} {r : Rel α} {xs : List α} (h0 : H0 o = none) (h1 : G o = none) {vs : List V} (h2 : H o = some (.lst vs)) (h3 : Paired (r.rd G) vs xs) (h4 : xs.length ≤ sizeLine) : (Cell.lst o r xs).ok H0 G H := ⟨h0, h1, _, h2, vs, rfl, h3, h4⟩
structure Bs where
  G0 : Hp
  H0 : Hp
  ab : List Hp
structure Ctx where
  b : Bs
  sl : List Slot
  ce : List Cell
structure Env (Z : Ctx) (G H : Hp) (σ : L2.St) : Prop where
  ex : Ext Z.b.G0 Z.b.H0 G H
  ab : ∀ B ∈ Z.b.ab, Same B G
  sl : ∀ (i : Nat) (s : Slot), Z.sl[i]? = some s → ∃ ov, σ[i]? = some ov ∧ s.ok G ov
  ce : ∀ c ∈ Z.ce, c.ok Z.b.H0 G H
  nd : (Z.ce.map Cell.addr).Nodup
theorem Env.le {Z : Ctx} {G H : Hp} {σ : L2.St} (E : Env Z G H σ) : SmF G H := E.ex.s
theorem Env.ext {Z : Ctx} {G H G' H' : Hp} {σ : L2.St} (E : Env Z G H σ) (e : Ext G H G' H') : Env Z G' H' σ :=
  ⟨E.ex.trans e, fun B hB => (E.ab B hB).trans e.g, fun i s hi => let ⟨ov, h1, h2⟩ := E.sl i s hi; ⟨ov, h1, Slot.ok_mono e.g h2⟩, fun c hc => Cell.ok_ext e (E.ce c hc), E.nd⟩
theorem Env.get {Z : Ctx} {G H : Hp} {σ : L2.St} (E : Env Z G H σ) {i : Nat} {α : Type} {r : Rel α} {x : α} (h : Z.sl[i]? = some (.val r x)) : ∃ v, σ[i]? = some (some v) ∧ r.rd G v x := by
  obtain ⟨ov, h1, v, h2, h3⟩ := E.sl i _ h
  exact ⟨v, by rw [h1, h2], h3⟩
def Ctx.set (Z : Ctx) (i : Nat) (s : Slot) : Ctx := ⟨Z.b, Z.sl.set i s, Z.ce⟩
def Ctx.setC (Z : Ctx) (cs : List Cell) : Ctx := ⟨Z.b, Z.sl, cs⟩
def Ctx.up (Z : Ctx) (B : Hp) : Ctx := ⟨⟨Z.b.G0, Z.b.H0, B :: Z.b.ab⟩, Z.sl, Z.ce⟩
theorem Env.setv {Z : Ctx} {G H : Hp} {σ : L2.St} (E : Env Z G H σ) {i : Nat} {s : Slot} {ov : Option V} (h : s.ok G ov) : Env (Z.set i s) G H (σ.set i ov) := by
  refine ⟨E.ex, E.ab, fun j t ht => ?_, E.ce, E.nd⟩
  by_cases hj : i = j
  · subst hj
    have hlt : i < Z.sl.length := by
      have := (List.getElem?_eq_some_iff.mp ht).1
      simpa [Ctx.set] using this
    have e1 : (Z.sl.set i s)[i]? = some s := by rw [List.getElem?_set_self hlt]
    have e2 : s = t := Option.some.inj (e1.symm.trans ht)
    subst e2
    obtain ⟨ov', h1, _⟩ := E.sl i _ (List.getElem?_eq_getElem hlt)
    have hl2 : i < σ.length := (List.getElem?_eq_some_iff.mp h1).1
    exact ⟨ov, by rw [List.getElem?_set_self hl2], h⟩
  · have e1 : (Z.sl.set i s)[j]? = Z.sl[j]? := List.getElem?_set_ne hj
    obtain ⟨ov', h1, h2⟩ := E.sl j t (e1.symm.trans ht)
    exact ⟨ov', by rw [List.getElem?_set_ne hj]; exact h1, h2⟩

/-! ### the strongest readings -/
section
variable {X : Cx}
structure wE (X : Cx) (e : Expr) (σ : L2.St) (H : Hp) (Q : VK) : Prop where
  run : ∀ pins s, Inv X pins σ H s → wpAny (model X.prog X.w) X.A (eval e X.env) (EP X pins σ Q) X.xe s
structure wT (X : Cx) (e : Expr) (σ : L2.St) (H : Hp) (Q : Bool → Hp → Prop) : Prop where
  run : ∀ pins s, Inv X pins σ H s → wpAny (model X.prog X.w) X.A (isTrue e X.env (eval e X.env)) (TP X pins σ Q) X.xe s
structure wW (X : Cx) (e : Expr) (σ : L2.St) (H : Hp) (Q : Bool → Hp → Prop) : Prop where
  run : ∀ whole pins s, Inv X pins σ H s → wpAny (model X.prog X.w) X.A (isTrue e X.env whole) (TP X pins σ Q) X.xe s
structure wA (X : Cx) (es : List Expr) (σ : L2.St) (H : Hp) (Q : List V → Hp → Prop) : Prop where
  run : ∀ pos pins s, Inv X pins σ H s → wpAny (model X.prog X.w) X.A (spliced (backTo pos (starEach es X.env))) (AP X pins σ Q) X.xe s
structure wS (X : Cx) (st : Stmt) (D : Ends) (σ : L2.St) (H : Hp) : Prop where
  run : ∀ pins s, Inv X pins σ H s → wpAny (model X.prog X.w) X.A (exec st X.env) (SP X pins D) X.xe s
structure wSs (X : Cx) (st : List Stmt) (D : Ends) (σ : L2.St) (H : Hp) : Prop where
  run : ∀ pins s, Inv X pins σ H s → wpAny (model X.prog X.w) X.A (execs st X.env) (SP X pins D) X.xe s
theorem ce {e : Expr} : PE X e (wE X e) := ⟨fun pins s _ _ _ I h => h.run pins s I⟩
theorem ct {e : Expr} : PT X e (wT X e) := ⟨fun pins s _ _ _ I h => h.run pins s I⟩
theorem cw {e : Expr} : PW X e (wW X e) := ⟨fun wh pins s _ _ _ I h => h.run wh pins s I⟩
theorem ca {es : List Expr} : PA X es (wA X es) := ⟨fun pos pins s _ _ _ I h => h.run pos pins s I⟩
theorem cs {st : Stmt} : PS X st (wS X st) := ⟨fun pins s _ _ _ I h => h.run pins s I⟩
theorem css {st : List Stmt} : PSs X st (wSs X st) := ⟨fun pins s _ _ _ I h => h.run pins s I⟩
theorem toE {e : Expr} {t : TE} (p : PE X e t) {σ : L2.St} {H : Hp} {Q : VK} (h : t σ H Q) : wE X e σ H Q := ⟨fun pins s I => p.run pins s σ H Q I h⟩
theorem toT {e : Expr} {t : TT} (p : PT X e t) {σ : L2.St} {H : Hp} {Q : Bool → Hp → Prop} (h : t σ H Q) : wT X e σ H Q := ⟨fun pins s I => p.run pins s σ H Q I h⟩
theorem toW {e : Expr} {t : TT} (p : PW X e t) {σ : L2.St} {H : Hp} {Q : Bool → Hp → Prop} (h : t σ H Q) : wW X e σ H Q := ⟨fun wh pins s I => p.run wh pins s σ H Q I h⟩
theorem toA {es : List Expr} {t : TA} (p : PA X es t) {σ : L2.St} {H : Hp} {Q : List V → Hp → Prop} (h : t σ H Q) : wA X es σ H Q := ⟨fun pos pins s I => p.run pos pins s σ H Q I h⟩
theorem toSs {st : List Stmt} {t : TS} (p : PSs X st t) {D : Ends} {σ : L2.St} {H : Hp} (h : t D σ H) : wSs X st D σ H := ⟨fun pins s I => p.run pins s σ H D I h⟩
end

def EvE (X : Cx) (e : Expr) (Z : Ctx) {α : Type} (r : Rel α) (x : α) : Prop :=
  ∀ G H σ Q, Env Z G H σ → (∀ G' H' v, Ext G H G' H' → r.rd G' v x → Q v H') → wE X e σ H Q
def EvT (X : Cx) (e : Expr) (Z : Ctx) (b : Bool) : Prop :=
  ∀ G H σ Q, Env Z G H σ → (∀ G' H', Ext G H G' H' → Q b H') → wT X e σ H Q
def EvW (X : Cx) (e : Expr) (Z : Ctx) (b : Bool) : Prop :=
  ∀ G H σ Q, Env Z G H σ → (∀ G' H', Ext G H G' H' → Q b H') → wW X e σ H Q
inductive Slv (G : Hp) : List V → List Slot → Prop
  | nil : Slv G [] []
  | cons {α : Type} {r : Rel α} {x : α} {v : V} {vs : List V} {ss : List Slot} : r.rd G v x → Slv G vs ss → Slv G (v :: vs) (.val r x :: ss)
theorem Slv.mono {G G' : Hp} (e : Same G G') : ∀ {vs : List V} {ss : List Slot}, Slv G vs ss → Slv G' vs ss
  | _, _, .nil => .nil
  | _, _, .cons (r := r) h t => .cons (r.mono e h) (Slv.mono e t)
def EvA (X : Cx) (es : List Expr) (Z : Ctx) (ss : List Slot) : Prop :=
  ∀ G H σ Q, Env Z G H σ → (∀ G' H' vs, Ext G H G' H' → Slv G' vs ss → Q vs H') → wA X es σ H Q
def Goes (X : Cx) (body : List Stmt) (Z : Ctx) (D : Ends) : Prop := ∀ G H σ, Env Z G H σ → wSs X body D σ H
def Nx (Z : Ctx) : L2.St → Hp → Prop := fun σ H => ∃ G, Env Z G H σ

section
variable {X : Cx} {Z : Ctx} {α β γ : Type} {r : Rel α} {x : α} {pos : Pos}
theorem ev_v (i : Nat) {n : Str} (hz : Z.sl[i]? = some (.val r x) := by rfl) (hN : X.N[i]? = some n := by rfl) (hv : Vis X.env.scope n := by first | exact Or.inl rfl | exact Or.inr (Or.inl rfl) | exact Or.inr (Or.inr rfl))
    (hd : (n == ("__debug__" : Str)) = false := by decide) (hcd : (n == ("__classdict__" : Str)) = false := by decide) : EvE X (.Name n pos) Z r x := fun G H σ Q E k => by
  obtain ⟨v, h1, h2⟩ := E.get hz
  exact toE (pe_var hN hv hd hcd) ⟨v, h1, k G H v (.refl E.le) h2⟩
theorem ev_pure {e : Expr} {v : V} (p : PE X e (tC v)) (h : ∀ G, r.rd G v x) : EvE X e Z r x := fun G H σ Q E k => toE p (k G H v (.refl E.le) (h G))
theorem ev_int {i : Int} {j : Nat} : EvE X (.Constant (.int i) j pos) Z rI i := ev_pure pe_int fun _ => rfl
theorem ev_bl {i : Bool} {j : Nat} : EvE X (.Constant (.bool i) j pos) Z rB i := ev_pure pe_bl fun _ => rfl
theorem ev_non {j : Nat} : EvE X (.Constant .none j pos) Z rN () := ev_pure pe_non fun _ => rfl
theorem ev2 {a b e : Expr} {rel : R2} {ra : Rel α} {rb : Rel β} {rc : Rel γ} {x : α} {y : β} {z : γ} (p : PE X e (tOp rel (wE X a) (wE X b))) (ha : EvE X a Z ra x) (hb : EvE X b Z rb y)
    (h : ∀ G H v w Q, SmF G H → ra.rd G v x → rb.rd G w y → (∀ G' H' u, Ext G H G' H' → rc.rd G' u z → Q u H') → rel v w H Q) : EvE X e Z rc z := fun G H σ Q E k =>
  toE p (ha G H σ _ E fun G1 H1 v e1 h1 => hb G1 H1 σ _ (E.ext e1) fun G2 H2 w e2 h2 => h G2 H2 v w Q e2.s (ra.mono e2.g h1) h2 fun G3 H3 u e3 => k G3 H3 u ((e1.trans e2).trans e3))
def CmpE (X : Cx) (op : CmpOp) (a b : Expr) (Z : Ctx) (k : Bool) : Prop :=
  behindInMarks op b = false ∧ ∃ t : TE, PC X op a b t ∧ ∀ G H σ Q, Env Z G H σ → (∀ G' H', Ext G H G' H' → Q (.bl k) H') → t σ H Q
theorem pc_of {op : CmpOp} {a b : Expr} {rel : R2} {ta tb : TE} (ho : OpR X (compareOp op) rel) (ha : PE X a ta) (hb : PE X b tb) : PC X op a b (tOp rel ta tb) :=
  ⟨fun pins s σ H Q I h => binT ha hb I h fun v u s2 x y H2 I2 rx ry q => ho pins s2 σ H2 x y v u Q I2 rx ry q⟩
theorem cm2 {op : CmpOp} {a b : Expr} {rel : R2} {ra : Rel α} {rb : Rel β} {x : α} {y : β} {k : Bool} (ho : OpR X (compareOp op) rel) (hm : behindInMarks op b = false) (ha : EvE X a Z ra x) (hb : EvE X b Z rb y)
    (h : ∀ G H v w Q, SmF G H → ra.rd G v x → rb.rd G w y → (∀ G' H' u, Ext G H G' H' → rB.rd G' u k → Q u H') → rel v w H Q) : CmpE X op a b Z k := ⟨hm, _, pc_of ho ce ce, fun G H σ Q E q =>
  ha G H σ _ E fun G1 H1 v e1 h1 => hb G1 H1 σ _ (E.ext e1) fun G2 H2 w e2 h2 => h G2 H2 v w Q e2.s (ra.mono e2.g h1) h2 fun G3 H3 u e3 hu => by
    obtain rfl : u = .bl k := hu
    exact q G3 H3 ((e1.trans e2).trans e3)⟩
theorem ev_c {op : CmpOp} {a b : Expr} {k : Bool} (h : CmpE X op a b Z k) : EvE X (.Compare a [op] [b] pos) Z rB k := by
  obtain ⟨hm, t, ho, h⟩ := h
  exact fun G H σ Q E q => toE (pe_cmp ho hm) (h G H σ Q E fun G1 H1 e1 => q G1 H1 _ e1 rfl)
theorem et_c {op : CmpOp} {a b : Expr} {k : Bool} (h : CmpE X op a b Z k) : EvT X (.Compare a [op] [b] pos) Z k := by
  obtain ⟨hm, t, ho, h⟩ := h
  exact fun G H σ Q E q => toT (pt_cmp ho hm) (h G H σ _ E fun G1 H1 e1 => ⟨k, rfl, q G1 H1 e1⟩)
theorem opI2 {C : Int → Int → Prop} {f : Int → Int → Int} {x y : Int} (hc : C x y) : ∀ (G H : Hp) (v w : V) (Q : VK), SmF G H → rI.rd G v x → rI.rd G w y → (∀ G' H' u, Ext G H G' H' → rI.rd G' u (f x y) → Q u H') → L2.rI C (fun i j => .int (f i j)) v w H Q :=
  fun G H v w Q s h1 h2 k => ⟨x, y, h1, h2, hc, k G H _ (.refl s) rfl⟩
theorem opI02 {f : Int → Int → Int} {x y : Int} : ∀ (G H : Hp) (v w : V) (Q : VK), SmF G H → rI.rd G v x → rI.rd G w y → (∀ G' H' u, Ext G H G' H' → rI.rd G' u (f x y) → Q u H') → L2.rI0 (fun i j => .int (f i j)) v w H Q :=
  fun G H v w Q s h1 h2 k => ⟨x, y, h1, h2, k G H _ (.refl s) rfl⟩
theorem opB02 {f : Int → Int → Bool} {x y : Int} : ∀ (G H : Hp) (v w : V) (Q : VK), SmF G H → rI.rd G v x → rI.rd G w y → (∀ G' H' u, Ext G H G' H' → rB.rd G' u (f x y) → Q u H') → L2.rI0 (fun i j => .bl (f i j)) v w H Q :=
  fun G H v w Q s h1 h2 k => ⟨x, y, h1, h2, k G H _ (.refl s) rfl⟩
variable {a b c : Expr} {i j : Int}
theorem ev_add (ha : EvE X a Z rI i) (hb : EvE X b Z rI j) : EvE X (.BinOp a .Add b pos) Z rI (i + j) := ev2 (pe_op op_add ce ce) ha hb (opI02 (f := fun i j => i + j))
theorem ev_sub (ha : EvE X a Z rI i) (hb : EvE X b Z rI j) : EvE X (.BinOp a .Sub b pos) Z rI (i - j) := ev2 (pe_op op_sub ce ce) ha hb (opI02 (f := fun i j => i - j))
theorem ev_mod (ha : EvE X a Z rI i) (hb : EvE X b Z rI j) (h : 0 < j) : EvE X (.BinOp a .Mod b pos) Z rI (i % j) := ev2 (pe_op op_mod ce ce) ha hb (opI2 (C := fun _ j => 0 < j) (f := fun i j => i % j) h)
def CDivZ (_ j : Int) : Prop := j ≠ 0 ∧ j.natAbs.log2 < 9000
theorem op_fdivZ : OpR X (binaryOp .FloorDiv) (L2.rI CDivZ fun i j => .int (i.fdiv j)) := opI fun i j _ _ _ _ _ hc q => floordiv_int hc.1 q (.inl (PyProof.noPylong_of_log2 hc.2))
theorem ev_fdivZ (ha : EvE X a Z rI i) (hb : EvE X b Z rI j) (h : CDivZ i j) : EvE X (.BinOp a .FloorDiv b pos) Z rI (i.fdiv j) := ev2 (pe_op op_fdivZ ce ce) ha hb (opI2 (f := fun i j => i.fdiv j) h)
theorem ev_pow (ha : EvE X a Z rI i) (hb : EvE X b Z rI j) (h : CPow i j) : EvE X (.BinOp a .Pow b pos) Z rI (i ^ j.toNat) := ev2 (pe_op op_pow ce ce) ha hb (opI2 (f := fun i j => i ^ j.toNat) h)
theorem cm_lt (ha : EvE X a Z rI i) (hb : EvE X b Z rI j) : CmpE X .Lt a b Z (decide (i < j)) := cm2 op_lt (nomark _) ha hb (opB02 (f := fun i j => decide (i < j)))
theorem cm_ge (ha : EvE X a Z rI i) (hb : EvE X b Z rI j) : CmpE X .GtE a b Z (decide (j ≤ i)) := cm2 op_ge (nomark _) ha hb (opB02 (f := fun i j => decide (j ≤ i)))
end
end PL

/-! Statements, loops, comprehensions, calls over the pure values. -/
namespace PL
open PySem PySem.Spec PyProof.Rows L2
section
variable {X : Cx} {Z : Ctx} {α β γ : Type} {r : Rel α} {x : α} {pos : Pos} {a b c e : Expr} {es : List Expr} {D : Ends} {rest : List Stmt}
/-! ### tests -/
theorem ev_t {k : Bool} (h : EvE X e Z rB k) (he : ∀ whole, isTrue e X.env whole = (do let v ← whole; standAt e.pos; holding [v] (truthy v)) := by intro _; rfl) : EvT X e Z k := fun G H σ Q E q =>
  toT (pt_val ce he) (h G H σ _ E fun G1 H1 v e1 h1 => ⟨k, h1, q G1 H1 e1⟩)
theorem ev_w {k : Bool} (h : EvW X e Z k) : EvT X e Z k := fun G H σ Q E q => toT (PW.pt cw) (h G H σ Q E q)
theorem et_not {k : Bool} (h : EvT X a Z k) : EvT X (.UnaryOp .Not a pos) Z (!k) := fun G H σ Q E q => toT (pt_not ct) (h G H σ _ E q)
theorem ew_and1 {k : Bool} (h : EvT X a Z k) : EvW X (.BoolOp .And [a] pos) Z k := fun G H σ Q E q => toW (pw_and1 ct) (h G H σ _ E q)
theorem ew_or1 {k : Bool} (h : EvT X a Z k) : EvW X (.BoolOp .Or [a] pos) Z k := fun G H σ Q E q => toW (pw_or1 ct) (h G H σ _ E q)
theorem ew_and {k l : Bool} (h : EvT X a Z k) (h2 : k = true → EvW X (.BoolOp .And (b :: es) pos) Z l) : EvW X (.BoolOp .And (a :: b :: es) pos) Z (k && l) := fun G H σ Q E q =>
  toW (pw_and ct cw) (h G H σ _ E fun G1 H1 e1 => by
    cases k with
    | true => exact h2 rfl G1 H1 σ Q (E.ext e1) fun G2 H2 e2 => q G2 H2 (e1.trans e2)
    | false => exact q G1 H1 e1)
theorem ew_or {k l : Bool} (h : EvT X a Z k) (h2 : k = false → EvW X (.BoolOp .Or (b :: es) pos) Z l) : EvW X (.BoolOp .Or (a :: b :: es) pos) Z (k || l) := fun G H σ Q E q =>
  toW (pw_or ct cw) (h G H σ _ E fun G1 H1 e1 => by
    cases k with
    | true => exact q G1 H1 e1
    | false => exact h2 rfl G1 H1 σ Q (E.ext e1) fun G2 H2 e2 => q G2 H2 (e1.trans e2))
theorem ev_one {op} (h : EvE X a Z r x) : EvE X (.BoolOp op [a] pos) Z r x := fun G H σ Q E q => toE (pe_one ce) (h G H σ Q E q)
theorem ev_and {k l : Bool} (h : EvE X a Z rB k) (h2 : k = true → EvE X (.BoolOp .And (b :: es) pos) Z rB l) : EvE X (.BoolOp .And (a :: b :: es) pos) Z rB (k && l) := fun G H σ Q E q =>
  toE (pe_and ce ce) (h G H σ _ E fun G1 H1 v e1 h1 => ⟨k, h1, by
    cases k with
    | true => exact h2 rfl G1 H1 σ Q (E.ext e1) fun G2 H2 v e2 => q G2 H2 v (e1.trans e2)
    | false => exact q G1 H1 _ e1 rfl⟩)
theorem ev_if {k : Bool} {y z : α} (h : EvT X c Z k) (h1 : k = true → EvE X a Z r y) (h2 : k = false → EvE X b Z r z) : EvE X (.IfExp c a b pos) Z r (if k then y else z) := fun G H σ Q E q =>
  toE (pe_ifExp ct ce ce) (h G H σ _ E fun G1 H1 e1 => by
    cases k with
    | true => exact h1 rfl G1 H1 σ Q (E.ext e1) fun G2 H2 v e2 => q G2 H2 v (e1.trans e2)
    | false => exact h2 rfl G1 H1 σ Q (E.ext e1) fun G2 H2 v e2 => q G2 H2 v (e1.trans e2))
theorem ev_cast {y : α} (h : EvE X e Z r x) (q : x = y) : EvE X e Z r y := q ▸ h
theorem ev_cov {s : Rel β} {y : β} (h : EvE X e Z r x) (q : ∀ G v, r.rd G v x → s.rd G v y) : EvE X e Z s y := fun G H σ Q E k => h G H σ Q E fun G1 H1 v e1 h1 => k G1 H1 v e1 (q G1 v h1)
theorem et_cast {k l : Bool} (h : EvT X e Z k) (q : k = l) : EvT X e Z l := q ▸ h
/-! ### == of flat things -/
theorem cm_eqI {i j : Int} (ha : EvE X a Z rI i) (hb : EvE X b Z rI j) : CmpE X .Eq a b Z (decide (i = j)) := cm2 op_eq (nomark _) ha hb fun G H v w Q s h1 h2 k => by
  cases h1; cases h2; exact ⟨rfl, k G H _ (.refl s) (by rw [dec_int]; show V.bl _ = V.bl _; congr 1)⟩
theorem cm_isN {y : Option α} (ha : EvE X a Z (rO r) y) (hn : ∀ G y, ¬ r.rd G .non y) {j p} : CmpE X .Is a (.Constant .none j p) Z (y.isNone) := cm2 op_isN (nomark _) ha (ev_non (X := X) (Z := Z)) fun G H v w Q s h1 h2 k => by
  refine ⟨h2, k G H _ (.refl s) ?_⟩
  rcases h1 with ⟨rfl, rfl⟩ | ⟨z, rfl, h⟩
  · rfl
  · show V.bl _ = V.bl _
    congr 1
    have nv : v ≠ .non := fun q => by subst q; exact hn G z h
    exact decide_eq_false nv
/-! ### arguments -/
theorem ea_nil : EvA X [] Z [] := fun G H σ Q E q => toA pa_nil (q G H [] (.refl E.le) .nil)
theorem ea_cons {ss : List Slot} (h : EvE X e Z r x) (hr : EvA X es Z ss) (hs : starEach (e :: es) X.env = (false, eval e X.env) :: starEach es X.env := by rfl) : EvA X (e :: es) Z (.val r x :: ss) := fun G H σ Q E q =>
  toA (pa_cons ce ca hs) (h G H σ _ E fun G1 H1 v e1 h1 => hr G1 H1 σ _ (E.ext e1) fun G2 H2 vs e2 h2 => q G2 H2 (v :: vs) (e1.trans e2) (.cons (r.mono e2.g h1) h2))
theorem ev_cb {t : List V → Hp → VK → Prop} {ss : List Slot} (p : PE X e (tCB t (wA X es))) (ha : EvA X es Z ss)
    (h : ∀ G H vs Q, SmF G H → Slv G vs ss → (∀ G' H' u, Ext G H G' H' → r.rd G' u x → Q u H') → t vs H Q) : EvE X e Z r x := fun G H σ Q E k =>
  toE p (ha G H σ _ E fun G1 H1 vs e1 h1 => h G1 H1 vs Q e1.s h1 fun G2 H2 u e2 => k G2 H2 u (e1.trans e2))
theorem slv1 {G : Hp} {vs : List V} (h : Slv G vs [.val r x]) : ∃ v, vs = [v] ∧ r.rd G v x := by
  cases h with
  | cons h t => cases t; exact ⟨_, rfl, h⟩
theorem slv2 {G : Hp} {vs : List V} {s : Rel β} {y : β} (h : Slv G vs [.val r x, .val s y]) : ∃ v w, vs = [v, w] ∧ r.rd G v x ∧ s.rd G w y := by
  cases h with
  | cons h t =>
    obtain ⟨w, rfl, h2⟩ := slv1 t
    exact ⟨_, w, rfl, h, h2⟩
/-! ### built-ins -/
variable {p : Pos} {n : Str}
theorem ev_len {K' : PySem.W.Frag} {xs : List α} (hm : X.mg "len" = none) (ha : EvA X [a] Z [.val (rL X.K r) xs]) (hg : Gl X "len" := by rfl) (he : starEach [a] X.env = (false, eval a X.env) :: starEach [] X.env := by rfl) : EvE X (.Call (.Name "len" p) [a] [] pos) Z rI (xs.length : Int) :=
  ev_cb (pe_callB call_len_seq hg hm PySem.boot_len ca (he := he)) ha fun G H vs Q s h k => by
    obtain ⟨v, rfl, l, us, rfl, h1, h2, _⟩ := slv1 h
    exact ⟨l, us, rfl, .inl (s.seq h1), k G H _ (.refl s) (by rw [plen h2]; rfl)⟩
theorem ev_all {xs : List Bool} (hc : X.calm = true) (hm : X.mg "all" = none) (ha : EvA X [a] Z [.val (rL X.K rB) xs]) (hg : Gl X "all" := by rfl) (he : starEach [a] X.env = (false, eval a X.env) :: starEach [] X.env := by rfl) : EvE X (.Call (.Name "all" p) [a] [] pos) Z rB (xs.all id) :=
  ev_cb (pe_callB (cr_all hc) hg hm (by decide +kernel) ca (he := he)) ha fun G H vs Q s h k => by
    obtain ⟨v, rfl, l, us, rfl, h1, h2, _⟩ := slv1 h
    obtain rfl := pmap (f := V.bl) (fun _ _ q => q) h2
    exact ⟨l, xs, rfl, s.seq h1, k G H _ (.refl s) rfl⟩
/-! ### items, slices, displays -/
theorem atI_of {vs : List V} {i : Int} {j : Nat} {v : V} (hi : i = (j : Int)) (h : vs[j]? = some v) : atI vs i = some v := by subst hi; exact atI_nat h
theorem ev_ixL {xs : List α} {i : Int} {j : Nat} {y : α} (ha : EvE X a Z (rL X.K r) xs) (hb : EvE X b Z rI i) (hi : i = (j : Int)) (hj : xs[j]? = some y) (hs : PlainIx b := by exact fun _ _ => rfl) : EvE X (.Subscript a b pos) Z r y :=
  ev2 (pe_ix ix_list ce ce hs) ha hb fun G H v w Q s h1 h2 k => by
    obtain ⟨l, us, rfl, h3, h4, _⟩ := h1
    obtain ⟨u, h5, h6⟩ := pget' h4 hj
    exact ⟨l, us, i, u, rfl, h2, s.seq h3, atI_of hi h5, k G H _ (.refl s) h6⟩
theorem small_two : (2 : Nat) ≤ sizeLine := by decide
theorem ev_tup2 {s : Rel β} {y : β} {k : Nat} (ha : EvA X [a, b] Z [.val r x, .val s y]) : EvE X (.Tuple [a, b] k pos) Z (rT2 X.K r s) (x, y) := fun G H σ Q E q =>
  toE (pe_tup ca) (ha G H σ _ E fun G1 H1 vs e1 h1 => by
    obtain ⟨v, w, rfl, h2, h3⟩ := slv2 h1
    refine ⟨small_two, fun t ht => q _ _ _ (e1.trans (.new e1.s ht)) ?_⟩
    have e2 : Same G1 (upd G1 t (.tup [v, w])) := same_upd (e1.s.free ht)
    exact ⟨t, v, w, rfl, SqT.of upd_same, r.mono e2 h2, s.mono e2 h3⟩)
theorem slvL {G : Hp} {ss : List Slot} : ∀ {xs : List α} {vs : List V}, Slv G vs (xs.map (.val r)) → Paired (r.rd G) vs xs
  | [], _, .nil => .nil
  | _ :: _, _, .cons h t => .cons h (slvL (ss := ss) t)
theorem slv_len {G : Hp} : ∀ {vs : List V} {ss : List Slot}, Slv G vs ss → vs.length = ss.length
  | _, _, .nil => rfl
  | _, _, .cons _ t => by rw [List.length_cons, List.length_cons, slv_len t]
def EvO (X : Cx) (oe : Option Expr) (Z : Ctx) (o : Option Int) : Prop := match oe, o with
  | none, none => True
  | some e, some i => EvE X e Z rI i
  | _, _ => False
end
end PL

/-! Loops, comprehensions, statements, defs. -/
namespace PL
open PySem PySem.Spec PyProof.Rows L2
/-! ### weaker knowledge -/
inductive SubS : List Slot → List Slot → Prop
  | nil : SubS [] []
  | any {s : Slot} {l m : List Slot} : SubS l m → SubS (s :: l) (.any :: m)
  | same {s : Slot} {l m : List Slot} : SubS l m → SubS (s :: l) (s :: m)
  | eq {s t : Slot} {l m : List Slot} : s = t → SubS l m → SubS (s :: l) (t :: m)
theorem SubS.refl : ∀ l : List Slot, SubS l l
  | [] => .nil
  | _ :: l => .same (SubS.refl l)
theorem SubS.get {l m : List Slot} (h : SubS l m) : ∀ (i : Nat) (t : Slot), m[i]? = some t → ∃ s, l[i]? = some s ∧ (t = .any ∨ t = s) := by
  induction h with
  | nil => intro i t e; simp at e
  | any _ ih =>
    intro i t e
    cases i with
    | zero => simp at e; exact ⟨_, rfl, .inl e.symm⟩
    | succ i => simpa using ih i t (by simpa using e)
  | same _ ih =>
    intro i t e
    cases i with
    | zero => simp at e; exact ⟨_, rfl, .inr e.symm⟩
    | succ i => simpa using ih i t (by simpa using e)
  | eq q _ ih =>
    intro i t e
    cases i with
    | zero => simp at e; exact ⟨_, rfl, .inr (e.symm.trans q.symm)⟩
    | succ i => simpa using ih i t (by simpa using e)
theorem Env.weak {Z W : Ctx} {G H : Hp} {σ : L2.St} (E : Env Z G H σ) (hb : Z.b = W.b) (hs : SubS Z.sl W.sl) (hc : Z.ce = W.ce) : Env W G H σ := by
  refine ⟨hb ▸ E.ex, hb ▸ E.ab, fun i t ht => ?_, hb ▸ hc ▸ E.ce, hc ▸ E.nd⟩
  obtain ⟨s, h1, h2⟩ := hs.get i t ht
  obtain ⟨ov, h3, h4⟩ := E.sl i s h1
  rcases h2 with rfl | rfl
  · exact ⟨ov, h3, trivial⟩
  · exact ⟨ov, h3, h4⟩
theorem Env.dn {Z : Ctx} {G H B : Hp} {σ : L2.St} (E : Env (Z.up B) G H σ) : Env Z G H σ := ⟨E.ex, fun b hb => E.ab b (List.mem_cons_of_mem _ hb), E.sl, E.ce, E.nd⟩
theorem Env.upB {Z : Ctx} {G H B : Hp} {σ : L2.St} (E : Env Z G H σ) (h : Same B G) : Env (Z.up B) G H σ := ⟨E.ex, fun b hb => by
  rcases List.mem_cons.mp hb with e | hb
  · rw [e]; exact h
  · exact E.ab b hb, E.sl, E.ce, E.nd⟩
theorem Env.above {Z : Ctx} {G H B : Hp} {σ : L2.St} (E : Env (Z.up B) G H σ) : Same B G := E.ab B List.mem_cons_self
theorem Env.own {Z : Ctx} {G H : Hp} {σ : L2.St} {o : Addr} {u : HO} (E : Env Z G H σ) (hG : G o = none) (h0 : Z.b.H0 o = none) (hc : ∀ c ∈ Z.ce, c.addr ≠ o) : Env Z G (upd H o u) σ := by
  have s1 : ∀ F : Hp, F o = none → Same F H → Same F (upd H o u) := fun F hF s b x e => by
    rw [upd_ne (ne_of_none e hF)]
    exact s b x e
  refine ⟨⟨E.ex.g, SmF.updo hG E.ex.s, s1 _ h0 E.ex.h, E.ex.n⟩, E.ab, E.sl, fun c hc' => ?_, E.nd⟩
  exact Cell.ok_upd (E.ce c hc') (hc c hc')

/-! ### what is walked -/
structure Walks {α : Type} (J : It) (G : Hp) (r : Rel α) (xs : List α) : Prop where
  stop : ∀ i G1 H, Same G G1 → SmF G1 H → xs.length ≤ i → J.stop i H
  go : ∀ i G1 H, Same G G1 → SmF G1 H → i < xs.length → J.go i H
  yld : ∀ i G1 H v H', Same G G1 → SmF G1 H → i < xs.length → J.yld i H v H' → ∃ x G2, xs[i]? = some x ∧ Ext G1 H G2 H' ∧ r.rd G2 v x
def EvI (X : Cx) (tg iter : Expr) (Z : Ctx) {α : Type} (r : Rel α) (xs : List α) : Prop :=
  ∃ wi : TI, PI X tg iter wi ∧ ∀ G H σ R, Env Z G H σ → (∀ G' H' J, Ext G H G' H' → Walks J G' r xs → xs.length ≤ sizeLine → R J H') → wi σ H R
section
variable {X : Cx} {Z : Ctx} {α β γ : Type} {r : Rel α} {x : α} {pos p : Pos} {a b c e tg : Expr} {es : List Expr} {D : Ends} {rest : List Stmt}
theorem ei_list {xs : List α} (h : EvE X e Z (rL X.K r) xs) : EvI X tg e Z r xs := ⟨_, pi_list ce, fun G H σ R E k => h G H σ _ E fun G1 H1 v e1 h1 => by
  obtain ⟨l, us, rfl, h3, h4, h5⟩ := h1
  refine ⟨l, rfl, ⟨us, e1.s.seq h3⟩, k G1 H1 _ e1 ⟨fun i G2 H2 s1 s2 hi => ⟨us, s2.seq (s1.seq h3), by rw [plen h4]; exact hi⟩, fun i G2 H2 s1 s2 hi => ?_, fun i G2 H2 v H3 s1 s2 hi hy => ?_⟩ h5⟩
  · have hi' : i < us.length := by rw [plen h4]; exact hi
    exact ⟨us, us[i], s2.seq (s1.seq h3), List.getElem?_eq_getElem hi'⟩
  · obtain ⟨rfl, hy⟩ := hy
    obtain ⟨x, q1, q2⟩ := pget h4 (hy us (s2.seq (s1.seq h3)))
    exact ⟨x, G2, q1, .refl s2, r.mono s1 q2⟩⟩
def rngL (lo : Int) (n : Nat) : List Int := (List.range n).map fun (i : Nat) => lo + (i : Int)
theorem rngL_len (lo : Int) (n : Nat) : (rngL lo n).length = n := by simp [rngL]
theorem rngL_get {lo : Int} {n i : Nat} (h : i < n) : (rngL lo n)[i]? = some (lo + (i : Int)) := by simp [rngL, h]
theorem walks_rng (lo : Int) (n : Nat) (G : Hp) : Walks (Itr lo n) G rI (rngL lo n) :=
  ⟨fun i _ _ _ _ hi => by rw [rngL_len] at hi; exact hi, fun i _ _ _ _ hi => by rw [rngL_len] at hi; exact hi, fun i G1 H v H' s1 s2 hi hy => by
    obtain ⟨rfl, rfl⟩ := hy
    rw [rngL_len] at hi
    exact ⟨_, G1, rngL_get hi, .refl s2, rfl⟩⟩
theorem ei_range {n : Int} (hm : X.mg "range" = none) (ha : EvA X [a] Z [.val rI n]) (h1 : -(2 ^ 62) ≤ n) (h2 : n ≤ 16777216) (hg : Gl X "range" := by rfl) (hs : starEach [a] X.env = [(false, eval a X.env)] := by rfl) :
    EvI X tg (.Call (.Name "range" p) [a] [] pos) Z rI (rngL 0 n.toNat) := ⟨_, pi_range1 hg hm ca hs, fun G H σ R E k => ha G H σ _ E fun G1 H1 vs e1 q => by
  obtain ⟨v, rfl, q1⟩ := slv1 q
  cases q1
  exact ⟨n, rfl, h1, by omega, k G1 H1 _ e1 (walks_rng 0 n.toNat G1) (by rw [rngL_len, sizeLine_eq]; omega)⟩⟩
/-! ### targets -/
structure wG (X : Cx) (tg : Expr) (v : V) (σ : L2.St) (H : Hp) (Q : L2.St → Hp → Prop) : Prop where
  run : ∀ pins s u, Inv X pins σ H s → RelV v u → wpAny (model X.prog X.w) X.A (assign tg X.env u) (fun _ s' => ∃ σ' H', Inv X pins σ' H' s' ∧ Q σ' H') X.xe s
theorem cg : PG X tg (wG X tg) := ⟨fun pins s _ _ _ u _ I r h => h.run pins s u I r⟩
theorem toG {t : TG} (q : PG X tg t) {v : V} {σ : L2.St} {H : Hp} {Q : L2.St → Hp → Prop} (h : t v σ H Q) : wG X tg v σ H Q := ⟨fun pins s u I r => q.run pins s σ H v u Q I r h⟩
def EvG (X : Cx) (tg : Expr) {α : Type} (r : Rel α) (x : α) (Z Z' : Ctx) : Prop := ∀ G H σ v Q, Env Z G H σ → r.rd G v x → (∀ σ', Env Z' G H σ' → Q σ' H) → wG X tg v σ H Q
theorem eg_name (i : Nat) {n : Str} (nd : X.N.Nodup) (hi : X.N[i]? = some n := by rfl) (hx : Loc X.env.scope n := by first | exact Or.inl rfl | exact Or.inr rfl) (hf : X.fn n = true ∨ X.env.scope.names.lookup n = some .local := by first | exact .inl rfl | exact .inr rfl | assumption) :
    EvG X (.Name n pos) r x Z (Z.set i (.val r x)) := fun G H σ v Q E h k => toG (pg_name nd hi hx hf) (k _ (E.setv ⟨v, rfl, h⟩))
theorem eg_tup2 {Z1 Z2 : Ctx} {s : Rel β} {y : α × β} {kk : Nat} (hc : X.calm = true) (h1 : EvG X a r y.1 Z Z1) (h2 : EvG X b s y.2 Z1 Z2)
    (hs1 : (assignEach [a, b] X.env).map (·.2) = assign a X.env :: (assignEach [b] X.env).map (·.2) := by rfl) (hs2 : (assignEach [b] X.env).map (·.2) = assign b X.env :: (assignEach [] X.env).map (·.2) := by rfl)
    (hn : (assignEach [a, b] X.env).length = 2 := by rfl) (hst : (assignEach [a, b] X.env).findIdx? (·.1) = none := by rfl) : EvG X (.Tuple [a, b] kk pos) (rT2 X.K r s) y Z Z2 := fun G H σ v Q E h k => by
  obtain ⟨t, v1, v2, rfl, q1, q2, q3⟩ := h
  exact toG (pg_tup hc (pgs_cons cg (pgs_cons cg pgs_nil hs2) hs1) hn hst) ⟨t, _, rfl, E.le.seqT q1, rfl, v1, _, rfl, h1 G H σ v1 _ E q2 fun σ1 E1 => ⟨v2, _, rfl, h2 G H σ1 v2 _ E1 q3 fun σ2 E2 => ⟨rfl, k σ2 E2⟩⟩⟩
theorem eg_tup3 {Z1 Z2 Z3 : Ctx} {s : Rel β} {t : Rel γ} {y : α × β × γ} {kk : Nat} (hc : X.calm = true) (h1 : EvG X a r y.1 Z Z1) (h2 : EvG X b s y.2.1 Z1 Z2) (h3 : EvG X c t y.2.2 Z2 Z3)
    (hs1 : (assignEach [a, b, c] X.env).map (·.2) = assign a X.env :: (assignEach [b, c] X.env).map (·.2) := by rfl) (hs2 : (assignEach [b, c] X.env).map (·.2) = assign b X.env :: (assignEach [c] X.env).map (·.2) := by rfl) (hs3 : (assignEach [c] X.env).map (·.2) = assign c X.env :: (assignEach [] X.env).map (·.2) := by rfl)
    (hn : (assignEach [a, b, c] X.env).length = 3 := by rfl) (hst : (assignEach [a, b, c] X.env).findIdx? (·.1) = none := by rfl) : EvG X (.Tuple [a, b, c] kk pos) (rT3 X.K r s t) y Z Z3 := fun G H σ v Q E h k => by
  obtain ⟨l, v1, v2, v3, rfl, q1, q2, q3, q4⟩ := h
  exact toG (pg_tup hc (pgs_cons cg (pgs_cons cg (pgs_cons cg pgs_nil hs3) hs2) hs1) hn hst) ⟨l, _, rfl, E.le.seqT q1, rfl, v1, _, rfl, h1 G H σ v1 _ E q2 fun σ1 E1 => ⟨v2, _, rfl, h2 G H σ1 v2 _ E1 q3 fun σ2 E2 => ⟨v3, _, rfl, h3 G H σ2 v3 _ E2 q4 fun σ3 E3 => ⟨rfl, k σ3 E3⟩⟩⟩⟩

/-! ### statements -/
theorem goes_nil (h : ∀ G H σ, Env Z G H σ → D.nx σ H) : Goes X [] Z D := fun G H σ E => toSs pss_nil (h G H σ E)
theorem goes_of {st : Stmt} {t : TS} (q : PS X st t) (h : ∀ G H σ, Env Z G H σ → t { D with nx := wSs X rest D } σ H) : Goes X (st :: rest) Z D := fun G H σ E => toSs (pss_cons q css) (h G H σ E)
theorem goes_ret (he : EvE X e Z r x) (h : ∀ G H v σ, Env Z G H σ → r.rd G v x → D.rt v H) : Goes X (.Return (some e) pos :: rest) Z D :=
  goes_of (ps_ret ce) fun G H σ E => he G H σ _ E fun G1 H1 v e1 h1 => h G1 H1 v σ (E.ext e1) h1
theorem goes_set (i : Nat) {n : Str} {p' : Pos} (nd : X.N.Nodup) (he : EvE X e Z r x) (h : Goes X rest (Z.set i (.val r x)) D) (hi : X.N[i]? = some n := by rfl) (hx : Loc X.env.scope n := by first | exact Or.inl rfl | exact Or.inr rfl)
    (hs : swapsWith e (some (.Name n p')) pos.line X.env = pure false := by rfl) (hf : X.fn n = true ∨ X.env.scope.names.lookup n = some .local := by first | exact .inl rfl | exact .inr rfl | assumption) : Goes X (.Assign [.Name n p'] e pos :: rest) Z D :=
  goes_of (ps_set nd hi hx ce hs hf) fun G H σ E => he G H σ _ E fun G1 H1 v e1 h1 => h G1 H1 _ ((E.ext e1).setv ⟨v, rfl, h1⟩)
theorem goes_if {th el : List Stmt} {k : Bool} (hc : EvT X c Z k) (h1 : k = true → Goes X th Z { D with nx := wSs X rest D }) (h2 : k = false → Goes X el Z { D with nx := wSs X rest D }) : Goes X (.If c th el pos :: rest) Z D :=
  goes_of (ps_if ct css css) fun G H σ E => hc G H σ _ E fun G1 H1 e1 => by
    cases k with
    | true => rw [if_pos rfl]; exact h1 rfl G1 H1 σ (E.ext e1)
    | false => rw [if_neg Bool.false_ne_true]; exact h2 rfl G1 H1 σ (E.ext e1)
theorem goes_on (h : Goes X rest Z D) {bk ct : L2.St → Hp → Prop} {rt : VK} : Goes X [] Z { nx := wSs X rest D, rt := rt, bk := bk, ct := ct } := goes_nil fun G H σ E => h G H σ E
def LN {S : Type} (Zs : S → Ctx) (I : Nat → S → Prop) (B : Hp) (i : Nat) : L2.St → Hp → Prop := fun σ H => ∃ s G, I i s ∧ Env ((Zs s).up B) G H σ
theorem goes_next {S : Type} {Zs : S → Ctx} {I : Nat → S → Prop} {B : Hp} {i : Nat} {rt : VK} {bk ct : L2.St → Hp → Prop} (s : S) (hI : I i s) (hb : Z.b = ((Zs s).up B).b) (hs : SubS Z.sl (Zs s).sl) (hc : Z.ce = (Zs s).ce) : Goes X [] Z { nx := LN Zs I B i, rt := rt, bk := bk, ct := ct } :=
  goes_nil fun G H σ E => ⟨s, G, hI, E.weak hb hs hc⟩
theorem goes_for {S : Type} {xs : List α} {body : List Stmt} (Zs : S → Ctx) (I : Nat → S → Prop) (s0 : S) (hc : X.calm = true) (hp : PassesOwn (model X.prog X.w) X.A X.env X.xe) (src : EvI X tg e Z r xs) (hI : I 0 s0) (hb0 : Z.b = (Zs s0).b) (hs0 : SubS Z.sl (Zs s0).sl) (hc0 : Z.ce = (Zs s0).ce)
    (turn : ∀ (B : Hp) (i : Nat) (x : α) (s : S), xs[i]? = some x → I i s → ∃ Z', EvG X tg r x ((Zs s).up B) Z' ∧ Goes X body Z' { nx := LN Zs I B (i + 1), rt := D.rt, bk := wSs X rest D, ct := LN Zs I B (i + 1) })
    (after : ∀ s, I xs.length s → Goes X rest (Zs s) D)
    (hs : ∀ x, foldedSetIterable e X.env x = pure x := by intro _; rfl) : Goes X (.For tg e body [] pos :: rest) Z D := by
  obtain ⟨wi, pi, hw⟩ := src
  refine goes_of (ps_for hp hc pi cg css hs) fun G H σ E => ?_
  refine hw G H σ _ E fun G1 H1 J e1 W _ => ?_
  refine ⟨fun i m σ2 H2 => m = xs.length - i ∧ i ≤ xs.length ∧ ∃ s G2, I i s ∧ Env ((Zs s).up G1) G2 H2 σ2, ⟨xs.length, by simp, Nat.zero_le _, s0, G1, hI, ((E.ext e1).weak hb0 hs0 hc0).upB (Same.refl _)⟩, ?_⟩
  rintro i m σ2 H2 ⟨rfl, hi, s, G2, hIs, E2⟩
  by_cases hlt : i < xs.length
  · refine .inr ⟨W.go i G2 H2 E2.above E2.le hlt, LN Zs I G1 (i + 1), fun σ' H' ⟨s', G', q1, q2⟩ => ⟨xs.length - (i + 1), by omega, rfl, hlt, s', G', q1, q2⟩, fun v H3 hy => ?_⟩
    obtain ⟨x, G3, hx, e3, hr⟩ := W.yld i G2 H2 v H3 E2.above E2.le hlt hy
    obtain ⟨Z', g1, g2⟩ := turn G1 i x s hx hIs
    exact g1 G3 H3 σ2 v _ (E2.ext e3) hr fun σ' E' => g2 G3 H3 σ' E'
  · have e : i = xs.length := by omega
    subst e
    exact .inl ⟨W.stop _ G2 H2 E2.above E2.le (Nat.le_refl _), after s hIs G2 H2 σ2 E2.dn⟩
end

/-! ### comprehensions -/
section
variable {X : Cx} {Z : Ctx} {α β γ : Type} {r : Rel α} {x : α} {pos p : Pos} {tg e elt : Expr} {D : Ends} {rest : List Stmt}
def Ctx.wipe (Z : Ctx) : List Nat → Ctx
  | [] => Z
  | v :: vs => (Z.wipe vs).set v .any
theorem Env.wipe {G H : Hp} {σ : L2.St} (E : Env Z G H σ) : ∀ vs : List Nat, Env (Z.wipe vs) G H (L2.wipe σ vs)
  | [] => E
  | v :: vs => (Env.wipe E vs).setv trivial
abbrev blkX (X : Cx) (scope : Scope) (s : Shared) (H : Hp) (C : Addr) (cl : List (Str × Addr)) (fp : List Addr) : Cx := X.blk s H scope (compEnvC scope cl C X.env) fp
def OnlyAt (vs : List Nat) (σ σ' : L2.St) : Prop := L2.wipe σ' vs = L2.wipe σ vs
def EvGB (X : Cx) (tg : Expr) {α : Type} (r : Rel α) (x : α) (vs : List Nat) (Z Z' : Ctx) : Prop := ∀ G H σ v Q, Env Z G H σ → r.rd G v x → (∀ σ', Env Z' G H σ' → OnlyAt vs σ σ' → Q σ' H) → wG X tg v σ H Q
theorem wipe_set (σ : L2.St) (i : Nat) (ov : Option V) : ∀ vs : List Nat, i ∈ vs → L2.wipe (σ.set i ov) vs = L2.wipe σ vs
  | [], h => by cases h
  | v :: vs, h => by
    show (L2.wipe (σ.set i ov) vs).set v none = (L2.wipe σ vs).set v none
    by_cases hm : i ∈ vs
    · rw [wipe_set σ i ov vs hm]
    · have e : i = v := (List.mem_cons.mp h).resolve_right hm
      subst e
      have q : ∀ vs : List Nat, i ∉ vs → L2.wipe (σ.set i ov) vs = (L2.wipe σ vs).set i ov := by
        intro vs
        induction vs with
        | nil => intro _; rfl
        | cons w ws ih =>
          intro hw
          have h1 : i ≠ w := fun z => hw (z ▸ List.mem_cons_self)
          show (L2.wipe (σ.set i ov) ws).set w none = ((L2.wipe σ ws).set w none).set i ov
          rw [ih fun z => hw (List.mem_cons_of_mem _ z), List.set_comm _ _ h1]
      rw [q vs hm, List.set_set]
theorem egb_name (i : Nat) {n : Str} {vs : List Nat} (nd : X.N.Nodup) (hm : i ∈ vs := by decide) (hi : X.N[i]? = some n := by rfl) (hx : Loc X.env.scope n := by first | exact Or.inl rfl | exact Or.inr rfl) (hf : X.fn n = true ∨ X.env.scope.names.lookup n = some .local := by first | exact .inl rfl | exact .inr rfl | assumption) :
    EvGB X (.Name n pos) r x vs Z (Z.set i (.val r x)) := fun G H σ v Q E h k => toG (pg_name nd hi hx hf) (k _ (E.setv ⟨v, rfl, h⟩) (wipe_set σ i _ vs hm))
theorem wipe_idem (σ : L2.St) (vs : List Nat) : L2.wipe (L2.wipe σ vs) vs = L2.wipe σ vs := by
  have q : ∀ ws : List Nat, (∀ v ∈ ws, v ∈ vs) → L2.wipe (L2.wipe σ ws) vs = L2.wipe σ vs := by
    intro ws
    induction ws with
    | nil => intro _; rfl
    | cons w ws ih =>
      intro h
      show L2.wipe ((L2.wipe σ ws).set w none) vs = _
      rw [wipe_set _ _ _ vs (h w List.mem_cons_self)]
      exact ih fun v hv => h v (List.mem_cons_of_mem _ hv)
  exact q vs fun _ h => h
def gB (X : Cx) (scope : Scope) (tg : Expr) : TG := fun v σ H Q => ∀ st H0 C cl fp, wG (blkX X scope st H0 C cl fp) tg v σ H Q
def eB (X : Cx) (scope : Scope) (elt : Expr) : TE := fun σ H Q => ∀ st H0 C cl fp, wE (blkX X scope st H0 C cl fp) elt σ H Q
def tB (X : Cx) (scope : Scope) (c : Expr) : TT := fun σ H Q => ∀ st H0 C cl fp, wT (blkX X scope st H0 C cl fp) c σ H Q
theorem lc_ev {scope : Scope} {own : List (Str × Nat)} {xs : List α} {s : Rel β} {wi : TI} {wt : TT} (hw : ∀ G H σ R, Env Z G H σ → (∀ G' H' J, Ext G H G' H' → Walks J G' r xs → xs.length ≤ sizeLine → R J H') → wi σ H R)
    (acc : Nat → List β) (hacc0 : acc 0 = []) (hlen : ∀ i, (acc i).length ≤ i)
    (turn : ∀ (B : Hp) (i : Nat) (x : α), xs[i]? = some x → ∃ Z' k, (∀ st H C cl fp, EvGB (blkX X scope st H C cl fp) tg r x (own.map (·.2)) ((Z.up B).wipe (own.map (·.2))) Z') ∧
      (∀ G H σ Q, Env Z' G H σ → (∀ G' H', Ext G H G' H' → Q k H') → wt σ H Q) ∧ (k = true → ∃ y, (∀ st H C cl fp, EvE (blkX X scope st H C cl fp) elt Z' s y) ∧ acc (i + 1) = acc i ++ [y]) ∧ (k = false → acc (i + 1) = acc i))
    {G H : Hp} {σ : L2.St} {Q : VK} (E : Env Z G H σ) (q : ∀ G' H' o vs, Ext G H G' H' → H o = none → G' o = none → H' o = some (.lst vs) → Paired (s.rd G') vs (acc xs.length) → (acc xs.length).length ≤ sizeLine → Q (.ref o) H') : tLc wi (gB X scope tg) wt (eB X scope elt) (own.map (·.2)) σ H Q := by
  refine hw G H σ _ E fun G1 H1 J e1 W hl D nD => ?_
  have E1 := E.ext e1
  have h0D : Z.b.H0 D = none := E1.ex.h.free nD
  have hcD : ∀ c ∈ Z.ce, c.addr ≠ D := fun c hc z => by
    obtain ⟨_, _, u, q3, _⟩ := E1.ce c hc
    rw [z, nD] at q3
    cases q3
  have hGD : G1 D = none := E1.le.free nD
  refine ⟨fun (i m : Nat) (H2 : Hp) => m = xs.length - i ∧ i ≤ xs.length ∧ ∃ (G2 : Hp) (vs : List V), Env (Z.up G1) G2 H2 σ ∧ Same H1 H2 ∧ (∀ b, H1 b ≠ none → G1 b = none → G2 b = none) ∧ G2 D = none ∧ H2 D = some (.lst vs) ∧ Paired (s.rd G2) vs (acc i), ⟨xs.length, by simp, Nat.zero_le _, G1, [], ((E1.ext (.newM E1.le nD)).upB (Same.refl _)), same_upd nD, fun _ _ z => z, hGD, upd_same, by rw [hacc0]; exact .nil⟩, ?_⟩
  rintro i m H2 ⟨rfl, hi, G2, vs, E2, s12, n2, g2, hD, hP⟩
  by_cases hlt : i < xs.length
  · refine .inr ⟨W.go i G2 H2 E2.above E2.le hlt, fun (H' : Hp) => ∃ (G2 : Hp) (vs : List V), Env (Z.up G1) G2 H' σ ∧ Same H1 H' ∧ (∀ b, H1 b ≠ none → G1 b = none → G2 b = none) ∧ G2 D = none ∧ H' D = some (.lst vs) ∧ Paired (s.rd G2) vs (acc (i + 1)), fun H' h => ⟨xs.length - (i + 1), by omega, rfl, hlt, h⟩, fun v H3 hy => ?_⟩
    obtain ⟨x, G3, hx, e3, hr⟩ := W.yld i G2 H2 v H3 E2.above E2.le hlt hy
    obtain ⟨Z', k, t1, t2, t3, t4⟩ := turn G1 i x hx
    intro st H0 C cl fp
    have E3 := E2.ext e3
    refine t1 st H0 C cl fp G3 H3 (L2.wipe σ (own.map (·.2))) v _ (E3.wipe _) hr fun σ2 Eb o2 => ?_
    refine ⟨Eq.trans o2 (wipe_idem σ _), ?_⟩
    refine t2 G3 H3 σ2 _ Eb fun G4 H4 e4 => ?_
    have nn : ∀ {G' H' : Hp}, Ext G2 H2 G' H' → ∀ b, H1 b ≠ none → G1 b = none → G' b = none := fun e b hb hg => e.n b (nn_same s12 hb) (n2 b hb hg)
    have nD2 : H2 D ≠ none := by rw [hD]; exact fun z => by cases z
    cases k with
    | false =>
      rw [if_neg Bool.false_ne_true]
      have e34 := e3.trans e4
      refine ⟨G4, vs, E2.ext e34, s12.trans e34.h, nn e34, e34.n D nD2 g2, e34.h D _ hD, ?_⟩
      rw [t4 rfl]
      exact pmono (fun _ _ => s.mono e34.g) hP
    | true =>
      rw [if_pos rfl]
      intro st' H0' C' cl' fp'
      obtain ⟨y, t3, t5⟩ := t3 rfl
      refine t3 st' H0' C' cl' fp' G4 H4 σ2 _ (Eb.ext e4) fun G5 H5 w e5 hw5 => ?_
      have e35 := (e3.trans e4).trans e5
      have gD5 : G5 D = none := e35.n D nD2 g2
      refine ⟨vs, e35.h D _ hD, ?_, G5, vs ++ [w], ?_, ?_, nn e35, gD5, upd_same, ?_⟩
      · have := plen hP
        have := hlen i
        omega
      · exact (E2.ext e35).own gD5 h0D hcD
      · intro b o hb
        rw [upd_ne (ne_of_none hb nD)]
        exact e35.h _ _ (s12 _ _ hb)
      · rw [t5]
        exact psnoc (pmono (fun _ _ => s.mono e35.g) hP) hw5
  · have e : i = xs.length := by omega
    subst e
    refine .inl ⟨W.stop _ G2 H2 E2.above E2.le (Nat.le_refl _), ?_⟩
    exact q G2 H2 D vs ⟨e1.g.trans E2.above, E2.le, e1.h.trans s12, fun b hb hg => n2 b (nn_same e1.h hb) (e1.n b hb hg)⟩ (e1.h.free nD) g2 hD hP (Nat.le_trans (hlen _) hl)
def EvF (X : Cx) (e : Expr) (Z : Ctx) {α : Type} (r : Rel α) (xs : List α) : Prop :=
  ∀ G H σ Q, Env Z G H σ → (∀ G' H' o vs, Ext G H G' H' → H o = none → G' o = none → H' o = some (.lst vs) → Paired (r.rd G') vs xs → xs.length ≤ sizeLine → Q (.ref o) H') → wE X e σ H Q
theorem frz_ext {G H G1 H1 : Hp} {o : Addr} {vs : List V} (e1 : Ext G H G1 H1) (h1 : H o = none) (h2 : G1 o = none) (h3 : H1 o = some (.lst vs)) : Ext G H (upd G1 o (.lst vs)) H1 := by
  have s1 : Same G1 (upd G1 o (.lst vs)) := same_upd h2
  refine ⟨e1.g.trans s1, fun b u hb => ?_, e1.h, fun b hb hg => ?_⟩
  · by_cases hbo : b = o
    · subst hbo
      rw [upd_same] at hb
      rw [← hb]
      exact .inl h3
    · rw [upd_ne hbo] at hb
      exact e1.s b u hb
  · have hbo : b ≠ o := fun z => hb (z ▸ h1)
    rw [upd_ne hbo]
    exact e1.n b hb hg
theorem ev_f {xs : List α} (h : EvF X e Z r xs) : EvE X e Z (rL X.K r) xs := fun G H σ Q E k => h G H σ Q E fun G1 H1 o vs e1 h1 h2 h3 h4 h5 =>
  k (upd G1 o (.lst vs)) H1 (.ref o) (frz_ext e1 h1 h2 h3) ⟨o, vs, rfl, SqL.of upd_same, pmono (fun _ _ => r.mono (same_upd h2)) h4, h5⟩
end
end PL

/-! Defs and their calls, objects that change, == of data, isinstance. -/
namespace PL
open PySem PySem.Spec PyProof.Rows L2
theorem set_self {α : Type _} : ∀ {l : List α} {i : Nat} {x : α}, l[i]? = some x → l.set i x = l
  | [], _, _, h => by simp at h
  | a :: l, 0, x, h => by simp at h; subst h; rfl
  | a :: l, i + 1, x, h => by
    show a :: l.set i x = a :: l
    rw [set_self (l := l) (i := i) (by simpa using h)]
theorem map_erase {α β : Type _} (f : α → β) : ∀ (l : List α) (i : Nat), (l.eraseIdx i).map f = (l.map f).eraseIdx i
  | [], _ => rfl
  | a :: l, 0 => rfl
  | a :: l, i + 1 => by
    show f a :: (l.eraseIdx i).map f = f a :: (l.map f).eraseIdx i
    rw [map_erase f l i]
theorem nd_inj {α : Type _} : ∀ {l : List α}, l.Nodup → ∀ {i j : Nat} {x : α}, l[i]? = some x → l[j]? = some x → i = j
  | [], _, i, j, x, h, _ => by simp at h
  | a :: l, nd, i, j, x, h1, h2 => by
    obtain ⟨n1, n2⟩ := List.nodup_cons.mp nd
    cases i with
    | zero =>
      cases j with
      | zero => rfl
      | succ j =>
        simp at h1 h2
        subst h1
        exact absurd (List.mem_of_getElem? h2) n1
    | succ i =>
      cases j with
      | zero =>
        simp at h1 h2
        subst h2
        exact absurd (List.mem_of_getElem? h1) n1
      | succ j =>
        have e1 : l[i]? = some x := by simpa using h1
        have e2 : l[j]? = some x := by simpa using h2
        rw [nd_inj n2 e1 e2]
/-! ### a def's end -/
def Rt (G0 H0 : Hp) (R : Hp → V → Prop) : VK := fun v H' => ∃ G', Ext G0 H0 G' H' ∧ R G' v
abbrev retD (G0 H0 : Hp) (R : Hp → V → Prop) : Ends := { nx := fun _ H' => Rt G0 H0 R .non H', rt := Rt G0 H0 R }
def spG (P : List Slot → (Hp → V → Prop) → Prop) : Sp := fun vs H Q _ => ∃ (ss : List Slot) (G : Hp) (R : Hp → V → Prop), P ss R ∧ SmF G H ∧ Slv G vs ss ∧ ∀ G' H' v, Ext G H G' H' → R G' v → Q v H'
theorem start_get {G : Hp} {N : List Str} : ∀ {vs : List V} {ss : List Slot}, Slv G vs ss → ∀ (m i : Nat) (s : Slot), (ss ++ List.replicate m .any)[i]? = some s → ∃ ov, (vs.map some ++ List.replicate m none)[i]? = some ov ∧ s.ok G ov
  | _, _, .nil, m, i, s, h => by
    have hi : i < m := by
      have := (List.getElem?_eq_some_iff.mp h).1
      simpa using this
    have e : s = .any := by
      simp [List.getElem?_replicate, hi] at h
      exact h.symm
    subst e
    exact ⟨none, by simp [List.getElem?_replicate, hi], trivial⟩
  | _, _, .cons (v := v) h t, m, 0, s, e => by
    simp at e
    subst e
    exact ⟨some v, by simp, v, rfl, h⟩
  | _, _, .cons h t, m, i + 1, s, e => by
    obtain ⟨ov, h1, h2⟩ := start_get (N := N) t m i s (by simpa using e)
    exact ⟨ov, by simpa using h1, h2⟩
theorem env_start {G H : Hp} {N : List Str} {vs : List V} {ss : List Slot} (hs : SmF G H) (h : Slv G vs ss) : Env ⟨⟨G, H, []⟩, ss ++ List.replicate (N.length - ss.length) .any, []⟩ G H (L2.start N vs) := by
  refine ⟨.refl hs, (fun B hB => by cases hB), fun i s hi => ?_, (fun c hc => by cases hc), List.nodup_nil⟩
  unfold L2.start
  rw [slv_len h]
  exact start_get (N := N) h _ i s hi
section
variable {P : Program} {w : World} {K : PySem.W.Frag} {mg : Str → Option Value} {base : Heap}
def CallOk (P : Program) (w : World) (K : PySem.W.Frag) (mg : Str → Option Value) (base : Heap) (n : Str) (k : Nat) (sp : Sp) : Prop :=
  ∃ f fd ps, FnOk P w K mg base CX0 k f fd ps sp ∧ mg n = some (.ref f) ∧ PySem.W.keepIn K (.ref f) = true ∧ Binds K fd ps []
end
section
variable {X : Cx} {Z : Ctx} {α β γ δ ε ζ : Type} {r : Rel α} {s : Rel β} {t : Rel γ} {u : Rel δ} {rz : Rel ζ} {x : α} {y : β} {z : γ} {q : δ} {pos p : Pos} {a b c d e tg : Expr} {es : List Expr} {D : Ends} {rest : List Stmt} {n : Str} {k : Nat}
theorem ev_call {Pr : List Slot → (Hp → V → Prop) → Prop} {ss : List Slot} {R : Hp → V → Prop} (C : CallOk X.prog X.w X.K X.mg X.base n k (spG Pr)) (hr : Room k X.A) (ha : EvA X (e :: es) Z ss) (hP : Pr ss R) (hR : ∀ G v, R G v → r.rd G v x)
    (hg : Gl X n := by rfl) (hdb : (n == ("__debug__" : Str)) = false := by decide) (he : starEach (e :: es) X.env = (false, eval e X.env) :: starEach es X.env := by rfl) (hpl : (backTo pos (starEach es X.env)).any (·.1) = false := by rfl) :
    EvE X (.Call (.Name n p) (e :: es) [] pos) Z r x := fun G H σ Q E q => by
  obtain ⟨f, fd, ps, F, hm, hk, hb⟩ := C
  exact toE (pe_call (E := fun _ _ _ => False) F hr hg hm hk hb .nil pass0 ca hdb he hpl) (ha G H σ _ E fun G1 H1 vs e1 h1 => ⟨ss, G1, R, hP, e1.s, by rw [List.append_nil]; exact h1, fun G2 H2 v e2 h2 => q G2 H2 v (e1.trans e2) (hR G2 v h2)⟩)
/-! ### objects of the def's own -/
theorem Env.cell {G H : Hp} {σ : L2.St} {j : Nat} {o : Addr} {vs : List V} {xs ys : List α} (E : Env Z G H σ) (hj : Z.ce[j]? = some (.lst o r xs)) (hp : Paired (r.rd G) vs ys) (hly : ys.length ≤ sizeLine) : Env (Z.setC (Z.ce.set j (.lst o r ys))) G (upd H o (.lst vs)) σ := by
  have hjl : j < Z.ce.length := (List.getElem?_eq_some_iff.mp hj).1
  have hmem : Cell.lst o r xs ∈ Z.ce := List.mem_of_getElem? hj
  obtain ⟨h0, hG, vs0, hH, _, _⟩ := Cell.ok_lst (E.ce _ hmem)
  have s1 : ∀ F : Hp, F o = none → Same F H → Same F (upd H o (.lst vs)) := fun F hF s b x e => by
    rw [upd_ne (ne_of_none e hF)]
    exact s b x e
  have hm : (Z.ce.set j (.lst o r ys)).map Cell.addr = Z.ce.map Cell.addr := by
    rw [List.map_set]
    have : (Z.ce.map Cell.addr)[j]? = some o := by rw [List.getElem?_map, hj]; rfl
    exact set_self this
  refine ⟨⟨E.ex.g, SmF.updo hG E.ex.s, s1 _ h0 E.ex.h, E.ex.n⟩, E.ab, E.sl, fun c hc => ?_, by show ((Z.ce.set j _).map Cell.addr).Nodup; rw [hm]; exact E.nd⟩
  obtain ⟨i, hi⟩ := List.getElem?_of_mem hc
  have hi' : (Z.ce.set j (.lst o r ys))[i]? = some c := hi
  by_cases hij : j = i
  · subst hij
    rw [List.getElem?_set_self hjl] at hi'
    have e := Option.some.inj hi'
    subst e
    exact Cell.lst_ok h0 hG upd_same hp hly
  · rw [List.getElem?_set_ne hij] at hi'
    have hc' := E.ce c (List.mem_of_getElem? hi')
    have hne : c.addr ≠ o := fun z => by
      have e1 : (Z.ce.map Cell.addr)[i]? = some o := by rw [List.getElem?_map, hi']; exact congrArg some z
      have e2 : (Z.ce.map Cell.addr)[j]? = some o := by rw [List.getElem?_map, hj]; rfl
      exact hij (nd_inj E.nd e2 e1)
    exact Cell.ok_upd hc' hne
theorem ef_nil : EvF X (.List [] pos) Z r [] := fun G H σ Q E k => toE (pe_lst pa_nil) ⟨Nat.zero_le _, fun o no => k G _ o [] (.newM E.le no) no (E.le.free no) upd_same .nil (Nat.zero_le _)⟩
theorem ef_list {xs : List α} (hm : X.mg "list" = none) (ha : EvA X [a] Z [.val (rL X.K r) xs]) (hg : Gl X "list" := by rfl) (he : starEach [a] X.env = (false, eval a X.env) :: starEach [] X.env := by rfl) : EvF X (.Call (.Name "list" p) [a] [] pos) Z r xs := fun G H σ Q E k =>
  toE (pe_callTy call_list_of hg hm (by decide +kernel) ca (he := he)) (ha G H σ _ E fun G1 H1 vs e1 h1 => by
    obtain ⟨v, rfl, l, us, rfl, h3, h4, h5⟩ := slv1 h1
    exact ⟨l, us, rfl, .inl (e1.s.seq h3), fun o no => k G1 _ o us (e1.trans (.newM e1.s no)) (e1.h.free no) (e1.s.free no) upd_same h4 h5⟩)
theorem goes_setF (i : Nat) {n : Str} {p' : Pos} {xs : List α} (nd : X.N.Nodup) (he : EvF X e Z r xs) (h : ∀ o, Goes X rest ⟨Z.b, Z.sl.set i (.val rRef o), .lst o r xs :: Z.ce⟩ D) (hi : X.N[i]? = some n := by rfl) (hx : Loc X.env.scope n := by first | exact Or.inl rfl | exact Or.inr rfl)
    (hs : swapsWith e (some (.Name n p')) pos.line X.env = pure false := by rfl) (hf : X.fn n = true ∨ X.env.scope.names.lookup n = some .local := by first | exact .inl rfl | exact .inr rfl | assumption) : Goes X (.Assign [.Name n p'] e pos :: rest) Z D :=
  goes_of (ps_set nd hi hx ce hs hf) fun G H σ E => he G H σ _ E fun G1 H1 o vs e1 h1 h2 h3 h4 h5 => by
    have E1 := (E.ext e1).setv (i := i) (s := .val rRef o) (ov := some (.ref o)) ⟨.ref o, rfl, rfl⟩
    refine h o G1 H1 _ ⟨E1.ex, E1.ab, E1.sl, fun c hc => ?_, ?_⟩
    · rcases List.mem_cons.mp hc with rfl | hc
      · exact Cell.lst_ok (E.ex.h.free h1) h2 h3 h4 h5
      · exact E1.ce c hc
    · refine List.nodup_cons.mpr ⟨fun hm => ?_, E1.nd⟩
      obtain ⟨c, hc, hco⟩ := List.mem_map.mp hm
      obtain ⟨_, _, u, q3, _⟩ := E.ce c hc
      have hco' : c.addr = o := hco
      rw [hco', h1] at q3
      cases q3
theorem goes_append (i j : Nat) {o : Addr} {xs : List α} {n : Str} {px pa : Pos} {pc : Pos} (he : EvA X [e] Z [.val r x]) (hz : Z.sl[i]? = some (.val rRef o)) (hj : Z.ce[j]? = some (.lst o r xs)) (hl : xs.length < sizeLine)
    (h : Goes X rest (Z.setC (Z.ce.set j (.lst o r (xs ++ [x])))) D) (hN : X.N[i]? = some n := by rfl) (hv : Vis X.env.scope n := by first | exact Or.inl rfl | exact Or.inr (Or.inl rfl) | exact Or.inr (Or.inr rfl))
    (hbase : attributeBase (.Name n px) "append" X.env (eval (.Name n px) X.env) = eval (.Name n px) X.env := by rfl)
    (hfew : ((backTo pc (starEach [e] X.env)).all (fun x => !x.1) && (backToKw pc (keywordEach [] X.env)).all (fun x => x.1.isSome) && decide ([e].length + ([] : List Keyword).length + (if ([] : List Keyword).isEmpty then 0 else 1) < 30)) = true := by rfl)
    (hline : (pa.endLine == pc.line) = true := by rfl) (hs : starEach [e] X.env = (false, eval e X.env) :: starEach [] X.env := by rfl) (hplain : (backTo pc (starEach [] X.env)).any (·.1) = false := by rfl)
    (hsw : swapsWith (.Call (.Attribute (.Name n px) "append" pa) [e] [] pc) none pos.line X.env = pure false := by rfl)
    (hd : (n == ("__debug__" : Str)) = false := by decide) (hcd : (n == ("__classdict__" : Str)) = false := by decide) : Goes X (.Expr (.Call (.Attribute (.Name n px) "append" pa) [e] [] pc) pos :: rest) Z D :=
  goes_of (ps_expr (pe_bm PySem.F.plainAttrs_list PySem.F.slot_list_append PySem.F.type_list_append mt_append (pe_var hN hv hd hcd) ca hbase hfew hline hs hplain) hsw) fun G H σ E => by
    obtain ⟨v, h1, h2⟩ := E.get hz
    obtain rfl : v = .ref o := h2
    obtain ⟨c0, cG, vs, cH, cP, cL⟩ := Cell.ok_lst (E.ce _ (List.mem_of_getElem? hj))
    refine ⟨.ref o, h1, .inl ⟨rfl, _, SqL.of cH⟩, he G H σ _ E fun G1 H1 us e1 q1 => ?_⟩
    obtain ⟨w, rfl, q2⟩ := slv1 q1
    have E1 := E.ext e1
    have cH1 := e1.h _ _ cH
    refine ⟨o, vs, w, rfl, rfl, cH1, by rw [plen cP]; exact hl, h G1 _ σ (E1.cell hj (psnoc (pmono (fun _ _ => r.mono e1.g) cP) q2) (by rw [List.length_append]; exact hl))⟩
theorem goes_frz (i j : Nat) {body : List Stmt} {o : Addr} {xs : List α} (hz : Z.sl[i]? = some (.val rRef o)) (hj : Z.ce[j]? = some (.lst o r xs)) (h : Goes X body ⟨Z.b, Z.sl.set i (.val (rL X.K r) xs), Z.ce.eraseIdx j⟩ D) : Goes X body Z D := fun G H σ E => by
  obtain ⟨v, h1, h2⟩ := E.get hz
  obtain rfl : v = .ref o := h2
  obtain ⟨c0, cG, vs, cH, cP, cL⟩ := Cell.ok_lst (E.ce _ (List.mem_of_getElem? hj))
  have s1 : Same G (upd G o (.lst vs)) := same_upd cG
  have hes : σ.set i (some (.ref o)) = σ := set_self h1
  have base : Env ⟨Z.b, Z.sl, Z.ce.eraseIdx j⟩ (upd G o (.lst vs)) H σ := by
    refine ⟨⟨E.ex.g.trans s1, fun b u hb => ?_, E.ex.h, fun b hb hg => ?_⟩, fun B hB => (E.ab B hB).trans s1, fun k s hk => ?_, fun c hc => ?_, ?_⟩
    · by_cases hbo : b = o
      · subst hbo
        rw [upd_same] at hb
        rw [← hb]
        exact .inl cH
      · rw [upd_ne hbo] at hb
        exact E.ex.s b u hb
    · have hbo : b ≠ o := fun z => hb (z ▸ c0)
      rw [upd_ne hbo]
      exact E.ex.n b hb hg
    · obtain ⟨ov, q1, q2⟩ := E.sl k s hk
      exact ⟨ov, q1, Slot.ok_mono s1 q2⟩
    · obtain ⟨k, hk⟩ := List.getElem?_of_mem hc
      have hc' := E.ce c (List.mem_of_mem_eraseIdx hc)
      have hne : c.addr ≠ o := fun z => by
        have hm : o ∈ (Z.ce.eraseIdx j).map Cell.addr := z ▸ List.mem_map_of_mem hc
        rw [map_erase] at hm
        have e2 : (Z.ce.map Cell.addr)[j]? = some o := by rw [List.getElem?_map, hj]; rfl
        obtain ⟨m, hm⟩ := List.getElem?_of_mem hm
        rw [List.getElem?_eraseIdx] at hm
        split at hm
        · have := nd_inj E.nd e2 hm
          omega
        · have := nd_inj E.nd e2 hm
          omega
      exact Cell.ok_G hc' s1 (by rw [upd_ne hne]; exact hc'.2.1)
    · show ((Z.ce.eraseIdx j).map Cell.addr).Nodup
      rw [map_erase]
      exact E.nd.sublist (List.eraseIdx_sublist _ _)
  have fin := base.setv (i := i) (s := .val (rL X.K r) xs) (ov := some (.ref o)) ⟨.ref o, rfl, o, vs, rfl, SqL.of upd_same, pmono (fun _ _ => r.mono s1) cP, cL⟩
  rw [hes] at fin
  exact h _ H σ fin
/-! ### == of data -/
theorem strs_mono {K : PySem.W.Frag} {H H' : Hp} (e : SmF H H') : ∀ (d : PyData) (v : V), Dp K H v d → Dp K H' v d := fun d => by
  refine PyData.rec (motive_1 := fun d => ∀ v, Dp K H v d → Dp K H' v d) (motive_2 := fun ds => ∀ vs, DpAll K H vs ds → DpAll K H' vs ds) (motive_3 := fun _ => True) (motive_4 := fun _ => True) ?_ ?_ ?_ ?_ ?_ ?_ ?_ ?_ ?_ ?_ ?_ ?_ d
  · intro v h; cases h; exact .non
  · intro b v h; cases h; exact .bl _
  · intro b v h; cases h; exact .int _
  · intro b v h; cases h; exact .str _
  · intro xs ih v h
    cases h with
    | lst h1 h2 => exact .lst (e.seq h1) (ih _ h2)
  · intro xs ih v h
    cases h with
    | tup h1 h2 => exact .tup (e.seqT h1) (ih _ h2)
  · intro xs _ v h; cases h
  · intro vs h; cases h; exact .nil
  · intro d ds ih1 ih2 vs h
    cases h with
    | cons h1 h2 => exact .cons (ih1 _ h1) (ih2 _ h2)
  · trivial
  · intros; trivial
  · intros; trivial
structure DataR {α : Type} (K : PySem.W.Frag) (r : Rel α) (n : Nat) where
  toD : α → PyData
  dp : ∀ G v x, r.rd G v x → Dp K G v (toD x)
  lay : ∀ G v x, r.rd G v x → (toD x).canLay0 = true
  dep : ∀ x, (toD x).depth ≤ n
  eqv : ∀ x y, PyData.eqv (toD x) (toD y) = true ↔ x = y
theorem dpAll {K : PySem.W.Frag} {n : Nat} (d : DataR K r n) (G : Hp) : ∀ {vs : List V} {xs : List α}, Paired (r.rd G) vs xs → DpAll K G vs (xs.map d.toD)
  | _, _, .nil => .nil
  | _, _, .cons h t => .cons (d.dp _ _ _ h) (dpAll d G t)
theorem layAll {K : PySem.W.Frag} {n : Nat} (d : DataR K r n) {G : Hp} : ∀ {vs : List V} {xs : List α}, Paired (r.rd G) vs xs → PyData.canLayAll0 (xs.map d.toD) = true
  | _, _, .nil => rfl
  | _, _, .cons (l₂ := xs) h t => by
    show (PyData.canLay0 (d.toD _) && PyData.canLayAll0 (xs.map d.toD)) = true
    rw [d.lay _ _ _ h, layAll d t]
    rfl
theorem depAll {K : PySem.W.Frag} {n : Nat} (d : DataR K r n) : ∀ (xs : List α), PyData.depthAll (xs.map d.toD) ≤ n
  | [] => Nat.zero_le _
  | x :: xs => by
    show max (PyData.depth (d.toD x)) (PyData.depthAll (xs.map d.toD)) ≤ n
    have h1 := d.dep x
    have h2 := depAll d xs
    omega
theorem eqvAll {K : PySem.W.Frag} {n : Nat} (d : DataR K r n) : ∀ (xs ys : List α), PyData.eqvAll (xs.map d.toD) (ys.map d.toD) = true ↔ xs = ys
  | [], [] => by simp [PyData.eqvAll]
  | [], y :: ys => by simp [PyData.eqvAll]
  | x :: xs, [] => by simp [PyData.eqvAll]
  | x :: xs, y :: ys => by
    show (PyData.eqv (d.toD x) (d.toD y) && PyData.eqvAll (xs.map d.toD) (ys.map d.toD)) = true ↔ _
    rw [Bool.and_eq_true, d.eqv, eqvAll d xs ys]
    simp
def dL {K : PySem.W.Frag} {n : Nat} (d : DataR K r n) : DataR K (rL K r) (n + 1) :=
  ⟨fun xs => .list (xs.map d.toD), fun G v xs ⟨a, vs, h1, h2, h3, _⟩ => by subst h1; exact .lst h2 (dpAll d G h3), fun G v xs ⟨a, vs, h1, h2, h3, _⟩ => layAll d h3, fun xs => Nat.succ_le_succ (depAll d xs), fun xs ys => by
    show PyData.eqvAll _ _ = true ↔ _
    exact eqvAll d xs ys⟩
def dTL {K : PySem.W.Frag} {n : Nat} (d : DataR K r n) : DataR K (rTL K r) (n + 1) :=
  ⟨fun xs => .tuple (xs.map d.toD), fun G v xs ⟨a, vs, h1, h2, h3, _⟩ => by subst h1; exact .tup h2 (dpAll d G h3), fun G v xs ⟨a, vs, h1, h2, h3, _⟩ => layAll d h3, fun xs => Nat.succ_le_succ (depAll d xs), fun xs ys => by
    show PyData.eqvAll _ _ = true ↔ _
    exact eqvAll d xs ys⟩
theorem shaped_of {d : PyData} {n : Nat} (h : d.canLay0 = true) (h2 : d.depth ≤ n) (h3 : n ≤ 64) : SeqAt.shaped d = true := by
  unfold SeqAt.shaped
  rw [h, decide_eq_true (Nat.le_trans h2 h3)]
  rfl
theorem cm_neD [DecidableEq α] {m : Nat} {x' : α} (d : DataR X.K r m) (hr : Room k X.A) (ha : EvE X a Z r x) (hb : EvE X b Z r x') (hm : m ≤ 64 := by decide) : CmpE X .NotEq a b Z (!decide (x = x')) := cm2 (op_neD hr.units) (nomark _) ha hb fun G H v w Q s h1 h2 k => by
    refine ⟨d.toD x, d.toD x', strs_mono s _ _ (d.dp _ _ _ h1), strs_mono s _ _ (d.dp _ _ _ h2), shaped_of (d.lay _ _ _ h1) (d.dep _) hm, shaped_of (d.lay _ _ _ h2) (d.dep _) hm, k G H _ (.refl s) ?_⟩
    show V.bl _ = V.bl _
    congr 2
    cases e : PyData.eqv (d.toD x) (d.toD x') with
    | true => exact (decide_eq_true ((d.eqv _ _).mp e)).symm
    | false => exact (decide_eq_false fun q => by rw [(d.eqv _ _).mpr q] at e; cases e).symm
/-! ### isinstance of built-in classes -/
def OfTy {α : Type} (K : PySem.W.Frag) (r : Rel α) (T : String) : Prop := ∀ G H v x, SmF G H → r.rd G v x → TyX K H v (.type T)
theorem ty_sqL {K : PySem.W.Frag} {G H : Hp} {o : Addr} {vs : List V} (s : SmF G H) (h : SqL K G o vs) : TyX K H (.ref o) (.type "list") := by
  rcases s.seq h with (h | ⟨u, h⟩) | ⟨u, its, m, h1, h2, _⟩
  · exact .base (.lst h)
  · exact .base (.frz h)
  · exact .kList h1 h2
theorem ty_L {K : PySem.W.Frag} : OfTy K (rL K r) "list" := fun G H v x q ⟨o, vs, h1, h2, _⟩ => by subst h1; exact ty_sqL q h2
theorem ev_isi (U : String) (kb : Bool) {T : String} {pu : Pos} {m : Str} (hm : X.mg "isinstance" = none) (hu : X.mg m = none) (ha : EvE X a Z r x) (ty : OfTy X.K r T) (hk : kitB T U = some kb := by decide +kernel) (hb : bootBuiltins m = some (.type U) := by decide +kernel) (hgu : Gl X m := by rfl)
    (hg : Gl X "isinstance" := by rfl) (he : starEach [a, .Name m pu] X.env = (false, eval a X.env) :: starEach [.Name m pu] X.env := by rfl) (he2 : starEach [.Name m pu] X.env = (false, eval (.Name m pu) X.env) :: starEach [] X.env := by rfl) (hpl : (backTo pos (starEach [.Name m pu] X.env)).any (·.1) = false := by rfl)
    (hn : m ≠ "__name__" := by decide) (hdb : (m == ("__debug__" : Str)) = false := by decide) : EvE X (.Call (.Name "isinstance" p) [a, .Name m pu] [] pos) Z rB kb := fun G H σ Q E q =>
  toE (pe_callB call_isi hg hm (by decide +kernel) (pa_cons ce (pa_cons (pe_bltn (v := .ty U) hgu hu hb rfl hn hdb) pa_nil he2) he) (he := he) (hpl := hpl)) (ha G H σ _ E fun G1 H1 v e1 h1 => ⟨v, .ty U, .type T, .type U, kb, rfl, .ty U, ty G1 H1 v x e1.s h1, kit_ty hk, q G1 H1 _ e1 rfl⟩)
end
end PL

/-! The law's own promise; lists that are popped. -/
namespace PL
open PySem PySem.Spec PyProof.Rows L2
section
variable {P : Program} {w : World} {K : PySem.W.Frag} {mg : Str → Option Value} {base : Heap}
theorem fn_d {x qual : Str} {st : Stmt} {f : Addr} {fd : FuncData} {N ps : List Str} {k : Nat} {Pr : List Slot → (Hp → V → Prop) → Prop} (F : FunD K x qual (defArgs st) (defBody st) (defScope st) [] [] f fd) (S : FnScope N ps (defScope st)) (len : ∀ ss R, Pr ss R → ss.length = ps.length)
    (body : ∀ (cdv : Value) (A : Around) (outer : List PySem.Env) (s : Shared) (H : Hp) (E : XK) (G : Hp) (ss : List Slot) (R : Hp → V → Prop), Room k (A.deeper (envOfC qual (defScope st) s.heap.objs.size f cdv)) → Pr ss R →
      Goes (cxOf CX0 P w K mg base N qual (defScope st) f cdv A outer s H E).nox (defBody st) ⟨⟨G, H, []⟩, ss ++ List.replicate (N.length - ss.length) .any, []⟩ (retD G H R)) : FnOk P w K mg base CX0 (k + 1) f fd ps (spG Pr) := by
  refine F.ok S (fun vs H Q E h => ?_) (fun cdv A outer s H vs Q E hr h => ?_)
  · obtain ⟨ss, G, R, h1, h2, h3, h4⟩ := h
    rw [slv_len h3, len ss R h1]
  · obtain ⟨ss, G, R, h1, h2, h3, h4⟩ := h
    refine ⟨wSs _ _, PSs.nox css, ?_⟩
    constructor
    intro pins s' I
    refine thn ((body cdv A outer s H E G ss R hr h1 G H (L2.start N vs) (env_start h2 h3)).run pins s' I) fun fl s1 hq => ?_
    cases fl with
    | next =>
      obtain ⟨σ', H', I', G', q1, q2⟩ := hq
      exact ⟨σ', H', I', h4 G' H' _ q1 q2⟩
    | brk => exact hq
    | cont => exact hq
    | ret u =>
      obtain ⟨v, σ', H', I', rv, G', q1, q2⟩ := hq
      exact ⟨v, σ', H', I', rv, h4 G' H' _ q1 q2⟩
end
section
variable {X : Cx} {Z Z' Z2 : Ctx} {α β γ : Type} {r : Rel α} {s : Rel β} {x : α} {pos p : Pos} {a b c e : Expr} {es : List Expr} {D : Ends} {rest : List Stmt} {n : Str} {k : Nat}
end
end PL

/-! list(range(n)); fractions. -/
namespace PL
open PySem PySem.Spec PyProof.Rows L2
section
variable {X : Cx} {Z : Ctx} {α β γ : Type} {r : Rel α} {x : α} {pos p p1 p2 : Pos} {a b c e : Expr} {D : Ends} {rest : List Stmt} {n : Str} {k : Nat}
/-! ### fractions -/
def Sz (n : Nat) (q : Rat) : Prop := q.num.natAbs < 2 ^ n ∧ q.den < 2 ^ n
theorem Sz.mono {n m : Nat} {q : Rat} (h : Sz n q) (hnm : n ≤ m) : Sz m q := ⟨Nat.lt_of_lt_of_le h.1 (Nat.pow_le_pow_right (by decide) hnm), Nat.lt_of_lt_of_le h.2 (Nat.pow_le_pow_right (by decide) hnm)⟩
theorem Sz.zero {n : Nat} (h : 1 ≤ n) : Sz n 0 := ⟨Nat.pow_pos (by decide), by show 1 < 2 ^ n; exact Nat.one_lt_two_pow (by omega)⟩
end
end PL

/-! The end with the script's bits; great factors. -/
namespace PL
open PySem PySem.Spec PyProof.Rows L2
theorem walk_EB {l : PySem.W.OpenLaw} {n k : Nat} {q : Program} {loose : List Str} {XP : (Str → Option Value) → Heap → Prop} {YP : World → Heap → Prop} {d : DefRec} {CX : CXT} {x : Str}
    (hn : l.most = some n) (hn2 : n ≤ sizeLine) (hdf : d.params.defaults = []) (hr : Room k callerA)
    (F : ∀ (w : World) (mg : Str → Option Value) (fa : Addr) (h : Heap), YP w h → h.Ns mainGlobals mg → mg d.name = some (.ref fa) → ∃ (K : PySem.W.Frag) (fd : FuncData) (sp : Sp), K.In h ∧ (∀ (s : Shared) (u : Value), BindsTo s fd ⟨[u], []⟩ [(x, u)]) ∧
        (∀ (H : Hp) (a : Addr) (ns : List Int), ns.length ≤ n → (∀ i ∈ ns, Builtin.Int.intBits i ≤ 1048576) → SqL K H a (ns.map V.int) → sp [.ref a] H (fun v _ => v = .bl true) fun _ _ _ => False) ∧ ∀ base : Heap, K.In base → base.Ns mainGlobals mg → FnOk l.prog w K mg base CX k fa fd [x] sp)
    (hCX : ∀ (H : Hp) (s : Shared) (e : Value) (s' : Shared), CX [] H s (fun _ _ _ => False) e s' → False) : PySem.W.WalkO q loose XP YP l.row.toRowW d [] (fun f vs => PySem.call f vs) :=
  Att.attach_callB hn hdf fun w s₀ s₁ mg mb fa o pm cd doc a vs ns G Y ho hd hcd hmg hobj hints hlen hbits hg =>
    let ⟨_, _, _, KX, hb, hsp, hF⟩ := F w mg fa _ Y G.T.g hmg
    law_call KX G.T.g G.T.b G.T.builtins G.T.nolimit hg hobj hints (Nat.le_trans hlen hn2) hr hF hb (fun H _ hS => hsp H a ns hlen hbits hS) fun H e s' => hCX H s₁ e s'
def Bt (n : Nat) (i : Int) : Prop := i.natAbs.log2 ≤ n
section
variable {X : Cx} {Z : Ctx} {pos : Pos} {a b : Expr} {i j : Int}
theorem op_mulG : OpR X (binaryOp .Mult) (L2.rI IntMulOk fun i j => .int (i * j)) := opI fun _ _ _ _ _ _ _ hc q => mul_int q hc
theorem ev_mulG (ha : EvE X a Z rI i) (hb : EvE X b Z rI j) (h : IntMulOk i j) : EvE X (.BinOp a .Mult b pos) Z rI (i * j) := ev2 (pe_op op_mulG ce ce) ha hb (opI2 (f := fun i j => i * j) h)
end
theorem log2_le {a n : Nat} (h : a < 2 ^ (n + 1)) : a.log2 ≤ n := by
  by_cases h0 : a = 0
  · subst h0
    exact Nat.zero_le _
  · have := (Nat.log2_lt h0).mpr h
    omega
theorem Bt.of {i : Int} {n : Nat} (h : i.natAbs < 2 ^ (n + 1)) : Bt n i := log2_le h
theorem Bt.mono {i : Int} {n m : Nat} (h : Bt n i) (hm : n ≤ m) : Bt m i := Nat.le_trans h hm
end PL

/-! Less is known; a list taken apart. -/
namespace PL
open PySem PySem.Spec PyProof.Rows L2
section
variable {X : Cx} {Z W : PL.Ctx} {body : List Stmt} {D : Ends} {α : Type} {r : Rel α} {x y : α} {pos : Pos} {a b : Expr}
end
end PL

/-! Texts as lists of code points. -/
namespace PL
open PySem PySem.Spec PyProof.Rows L2
def rC : Rel Text := ⟨fun _ v x => v = .str (mkS x) ∧ okT x, fun _ h => h⟩
abbrev tx (s : Str) : Text := s.cps.toList
theorem mk_tx (z : Str) : mkS (tx z) = z := by
  cases z
  simp [mkS, tx]
theorem tx_mk (x : Text) : tx (mkS x) = x := by simp [mkS, tx]
theorem mkS_inj {x y : Text} (h : mkS x = mkS y) : x = y := by rw [← tx_mk x, h, tx_mk]
theorem mkS_len (x : Text) : (mkS x).length = x.length := by simp [mkS, Str.length]
theorem mkS_app (x y : Text) : mkS x ++ mkS y = mkS (x ++ y) := by
  show (⟨x.toArray ++ y.toArray⟩ : Str) = ⟨(x ++ y).toArray⟩
  simp
/-! ### texts that the machine can hold -/
def okTb (x : Text) : Bool := decide (x.length ≤ 1000000) && x.all fun c => decide (c < 1114112)
theorem okT_b {x : Text} (h : okTb x = true) : okT x := by
  unfold okTb at h
  rw [Bool.and_eq_true] at h
  have h1 := of_decide_eq_true h.1
  exact ⟨by rw [sizeLine_eq]; omega, fun c hc => of_decide_eq_true (List.all_eq_true.mp h.2 c hc)⟩
theorem okT.app {x y : Text} (hx : okT x) (hy : okT y) (h : x.length + y.length ≤ sizeLine) : okT (x ++ y) :=
  ⟨by rw [List.length_append]; exact h, fun c hc => (List.mem_append.mp hc).elim (hx.2 c) (hy.2 c)⟩
theorem okT.one {x : Text} {c : Nat} (h : okT x) (hc : c ∈ x) : okT [c] := ⟨by rw [sizeLine_eq]; show 1 ≤ 16777216; decide, fun d hd => by rw [List.mem_singleton.mp hd]; exact h.2 c hc⟩
section
variable {X : Cx} {Z : PL.Ctx} {α β γ : Type} {r : Rel α} {pos p p2 : Pos} {a b c e tg : Expr} {x y z : Text} {k : Nat} {n : Str}
theorem ev_txt {i : Str} {j : Nat} (h : okTb (tx i) = true := by decide +kernel) : EvE X (.Constant (.str i) j pos) Z rC (tx i) := ev_pure pe_str fun _ => ⟨by rw [mk_tx], okT_b h⟩
theorem ev_lenX (hm : X.mg "len" = none) (ha : EvA X [a] Z [.val rC x]) (hg : Gl X "len" := by rfl) (he : starEach [a] X.env = (false, eval a X.env) :: starEach [] X.env := by rfl) : EvE X (.Call (.Name "len" p) [a] [] pos) Z rI (x.length : Int) :=
  ev_cb (pe_callB call_len_str hg hm PySem.boot_len ca (he := he)) ha fun G H vs Q s h k => by
    obtain ⟨v, rfl, h1⟩ := slv1 h
    obtain ⟨rfl, o1⟩ := h1
    exact ⟨_, rfl, by rw [mkS_len]; exact o1.1, k G H _ (.refl s) (by rw [mkS_len]; rfl)⟩
theorem cm_inC {t : Text} (ha : EvE X a Z rC t) (hb : EvE X b Z rC y) (h1 : t.length = 1) (hm : behindInMarks .In b = false := by rfl) : CmpE X .In a b Z (decide (t.headD 0 ∈ y)) := cm2 op_in_sign hm ha hb fun G H v w Q s h1' h2 k => by
  obtain ⟨rfl, o1⟩ := h1'
  obtain ⟨rfl, o2⟩ := h2
  obtain ⟨ch, rfl⟩ := List.length_eq_one_iff.mp h1
  exact ⟨ch, _, rfl, rfl, k G H _ (.refl s) (by rw [show (mkS y).cps.toList = y from tx_mk y]; rfl)⟩
theorem ei_txt (h : EvE X e Z rC x) : EvI X tg e Z rC (x.map fun c => [c]) := ⟨_, pi_str ce, fun G H σ R E k => h G H σ _ E fun G1 H1 v e1 h1 => by
  obtain ⟨rfl, o1⟩ := h1
  have hl : (x.map fun c => [c]).length = (mkS x).cps.size := by simp [mkS]
  refine ⟨mkS x, rfl, k G1 H1 _ e1 ⟨fun i G2 H2 s1 s2 hi => by rw [hl] at hi; exact hi, fun i G2 H2 s1 s2 hi => by rw [hl] at hi; exact hi, fun i G2 H2 v H3 s1 s2 hi hy => ?_⟩ (by rw [List.length_map]; exact o1.1)⟩
  obtain ⟨rfl, c, q, rfl⟩ := hy
  have q' : x[i]? = some c := by simpa [mkS] using q
  exact ⟨[c], G2, by simp [q'], .refl s2, rfl, o1.one (List.mem_of_getElem? q')⟩⟩
def dC {K : PySem.W.Frag} : DataR K rC 0 := ⟨fun x => .str (mkS x), fun G v x h => by obtain ⟨rfl, _⟩ := h; exact .str _, fun G v x h => by
    show PyData.strOk (mkS x) = true
    unfold PyData.strOk mkS
    rw [Array.all_eq_true']
    intro c hc
    exact decide_eq_true (h.2.2 c (by simpa using hc)), fun _ => Nat.le_refl _, fun x y => by
    show (mkS x == mkS y) = true ↔ _
    rw [beq_iff_eq]
    exact ⟨mkS_inj, fun h => by rw [h]⟩⟩
end
end PL

/-! Defs that hand back a new list; constants of the module. -/
namespace PL
open PySem PySem.Spec PyProof.Rows L2
/-! ### enumerate(text) -/
def RtF {α : Type} (G0 H0 : Hp) (r : Rel α) (xs : List α) : VK := fun v H' => ∃ G' o us, v = .ref o ∧ Ext G0 H0 G' H' ∧ H0 o = none ∧ G' o = none ∧ H' o = some (.lst us) ∧ Paired (r.rd G') us xs ∧ xs.length ≤ sizeLine
abbrev retF {α : Type} (G0 H0 : Hp) (r : Rel α) (xs : List α) : Ends := { nx := fun _ _ => False, rt := RtF G0 H0 r xs }
def spF {α : Type} (r : Rel α) (Pr : List Slot → List α → Prop) : Sp := fun vs H Q _ => ∃ (ss : List Slot) (G : Hp) (xs : List α), Pr ss xs ∧ SmF G H ∧ Slv G vs ss ∧
  ∀ G' H' o us, Ext G H G' H' → H o = none → G' o = none → H' o = some (.lst us) → Paired (r.rd G') us xs → xs.length ≤ sizeLine → Q (.ref o) H'
section
variable {P : Program} {w : World} {K : PySem.W.Frag} {mg : Str → Option Value} {base : Heap} {α : Type} {r : Rel α}
theorem fn_f {x qual : Str} {st : Stmt} {f : Addr} {fd : FuncData} {N ps : List Str} {k : Nat} {Pr : List Slot → List α → Prop} (F : FunD K x qual (defArgs st) (defBody st) (defScope st) [] [] f fd) (S : FnScope N ps (defScope st)) (len : ∀ ss xs, Pr ss xs → ss.length = ps.length)
    (body : ∀ (cdv : Value) (A : Around) (outer : List PySem.Env) (s : Shared) (H : Hp) (E : XK) (G : Hp) (ss : List Slot) (xs : List α), Room k (A.deeper (envOfC qual (defScope st) s.heap.objs.size f cdv)) → Pr ss xs →
      Goes (cxOf CX0 P w K mg base N qual (defScope st) f cdv A outer s H E).nox (defBody st) ⟨⟨G, H, []⟩, ss ++ List.replicate (N.length - ss.length) .any, []⟩ (retF G H r xs)) : FnOk P w K mg base CX0 (k + 1) f fd ps (spF r Pr) := by
  refine F.ok S (fun vs H Q E h => ?_) (fun cdv A outer s H vs Q E hr h => ?_)
  · obtain ⟨ss, G, xs, h1, h2, h3, h4⟩ := h
    rw [slv_len h3, len ss xs h1]
  · obtain ⟨ss, G, xs, h1, h2, h3, h4⟩ := h
    refine ⟨wSs _ _, PSs.nox css, ?_⟩
    constructor
    intro pins s' I
    refine thn ((body cdv A outer s H E G ss xs hr h1 G H (L2.start N vs) (env_start h2 h3)).run pins s' I) fun fl s1 hq => ?_
    cases fl with
    | next =>
      obtain ⟨σ', H', I', q⟩ := hq
      exact q.elim
    | brk => exact hq
    | cont => exact hq
    | ret u =>
      obtain ⟨v, σ', H', I', rv, G', o, us, rfl, q1, q2, q3, q4, q5, q6⟩ := hq
      exact ⟨_, σ', H', I', rv, h4 G' H' o us q1 q2 q3 q4 q5 q6⟩
end
section
variable {X : Cx} {Z : PL.Ctx} {α β γ δ : Type} {r : Rel α} {pos p : Pos} {a b c e : Expr} {es : List Expr} {D : Ends} {rest : List Stmt} {n : Str} {k : Nat}
theorem ef_call {Pr : List Slot → List α → Prop} {ss : List Slot} {xs : List α} (C : CallOk X.prog X.w X.K X.mg X.base n k (spF r Pr)) (hr : Room k X.A) (ha : EvA X (e :: es) Z ss) (hP : Pr ss xs)
    (hg : Gl X n := by rfl) (hdb : (n == ("__debug__" : Str)) = false := by decide) (he : starEach (e :: es) X.env = (false, eval e X.env) :: starEach es X.env := by rfl) (hpl : (backTo pos (starEach es X.env)).any (·.1) = false := by rfl) :
    EvF X (.Call (.Name n p) (e :: es) [] pos) Z r xs := fun G H σ Q E q => by
  obtain ⟨f, fd, ps, F, hm, hk, hb⟩ := C
  exact toE (pe_call (E := fun _ _ _ => False) F hr hg hm hk hb .nil pass0 ca hdb he hpl) (ha G H σ _ E fun G1 H1 vs e1 h1 => ⟨ss, G1, xs, hP, e1.s, by rw [List.append_nil]; exact h1, fun G2 H2 o us e2 h2 h3 h4 h5 h6 => q G2 H2 o us (e1.trans e2) (e1.h.free h2) h3 h4 h5 h6⟩)
theorem ev_gtxt {z : Str} (h : ∃ t, X.mg n = some (.str z t)) (ho : okTb (tx z) = true := by decide +kernel) (hg : Gl X n := by rfl) (hd : (n == ("__debug__" : Str)) = false := by decide) : EvE X (.Name n pos) Z rC (tx z) := by
  obtain ⟨t, h⟩ := h
  exact ev_pure (v := .str z) (pe_glob hg h ⟨t, rfl⟩ hd) fun _ => ⟨by rw [mk_tx], okT_b ho⟩
theorem ev_gint {i : Int} (h : ∃ t, X.mg n = some (.int i t)) (hg : Gl X n := by rfl) (hd : (n == ("__debug__" : Str)) = false := by decide) : EvE X (.Name n pos) Z rI i := by
  obtain ⟨t, h⟩ := h
  exact ev_pure (v := .int i) (pe_glob hg h ⟨t, rfl⟩ hd) fun _ => rfl
end
end PL

/-! A list of the def's own, read as a value for a while. -/
namespace PL
open PySem PySem.Spec PyProof.Rows L2
section
variable {X : Cx} {Z : PL.Ctx} {α β γ δ : Type} {r : Rel α} {s : Rel β} {t : Rel γ} {u : Rel δ} {x : α} {y : β} {z : γ} {q : δ} {pos p : Pos} {a b c d e : Expr} {es : List Expr} {D : Ends} {rest : List Stmt} {n : Str} {k : Nat}
theorem Env.frz {G H : Hp} {σ : L2.St} {i j : Nat} {o : Addr} {xs : List α} (E : Env Z G H σ) (hz : Z.sl[i]? = some (.val rRef o)) (hj : Z.ce[j]? = some (.lst o r xs)) :
    ∃ vs, H o = some (.lst vs) ∧ G o = none ∧ Paired (r.rd G) vs xs ∧ Env ⟨Z.b, Z.sl.set i (.val (rL X.K r) xs), Z.ce.eraseIdx j⟩ (upd G o (.lst vs)) H σ := by
  obtain ⟨c0, cG, vs, cH, cP, cL⟩ := Cell.ok_lst (E.ce _ (List.mem_of_getElem? hj))
  refine ⟨vs, cH, cG, cP, ?_⟩
  obtain ⟨v, h1, h2⟩ := E.get hz
  obtain rfl : v = .ref o := h2
  have s1 : Same G (upd G o (.lst vs)) := same_upd cG
  have hes : σ.set i (some (.ref o)) = σ := set_self h1
  have base : Env ⟨Z.b, Z.sl, Z.ce.eraseIdx j⟩ (upd G o (.lst vs)) H σ := by
    refine ⟨⟨E.ex.g.trans s1, fun b u hb => ?_, E.ex.h, fun b hb hg => ?_⟩, fun B hB => (E.ab B hB).trans s1, fun k s hk => ?_, fun c hc => ?_, ?_⟩
    · by_cases hbo : b = o
      · subst hbo
        rw [upd_same] at hb
        rw [← hb]
        exact .inl cH
      · rw [upd_ne hbo] at hb
        exact E.ex.s b u hb
    · have hbo : b ≠ o := fun z => hb (z ▸ c0)
      rw [upd_ne hbo]
      exact E.ex.n b hb hg
    · obtain ⟨ov, q1, q2⟩ := E.sl k s hk
      exact ⟨ov, q1, Slot.ok_mono s1 q2⟩
    · have hc' := E.ce c (List.mem_of_mem_eraseIdx hc)
      have hne : c.addr ≠ o := fun z => by
        have hm : o ∈ (Z.ce.eraseIdx j).map Cell.addr := z ▸ List.mem_map_of_mem hc
        rw [map_erase] at hm
        have e2 : (Z.ce.map Cell.addr)[j]? = some o := by rw [List.getElem?_map, hj]; rfl
        obtain ⟨m, hm⟩ := List.getElem?_of_mem hm
        rw [List.getElem?_eraseIdx] at hm
        split at hm
        · have := nd_inj E.nd e2 hm
          omega
        · have := nd_inj E.nd e2 hm
          omega
      exact Cell.ok_G hc' s1 (by rw [upd_ne hne]; exact hc'.2.1)
    · show ((Z.ce.eraseIdx j).map Cell.addr).Nodup
      rw [map_erase]
      exact E.nd.sublist (List.eraseIdx_sublist _ _)
  have fin := base.setv (i := i) (s := .val (rL X.K r) xs) (ov := some (.ref o)) ⟨.ref o, rfl, o, vs, rfl, SqL.of upd_same, pmono (fun _ _ => r.mono s1) cP, cL⟩
  rw [hes] at fin
  exact fin
theorem bor_ext {G H G2 H2 : Hp} {o : Addr} {v : HO} (hG : SmF G H) (cG : G o = none) (e : Ext (upd G o v) H G2 H2) : Ext G H G H2 := ⟨Same.refl _, (same_upd cG).trf (e.g.trf e.s), e.h, fun _ _ z => z⟩
theorem et_bor (i j : Nat) {o : Addr} {xs : List α} {kb : Bool} (hz : Z.sl[i]? = some (.val rRef o)) (hj : Z.ce[j]? = some (.lst o r xs)) (h : EvT X c ⟨Z.b, Z.sl.set i (.val (rL X.K r) xs), Z.ce.eraseIdx j⟩ kb) : EvT X c Z kb := fun G H σ Q E k => by
  obtain ⟨vs, h1, h2, _, h3⟩ := E.frz (X := X) hz hj
  exact h _ H σ Q h3 fun G2 H2 e2 => k G H2 (bor_ext E.le h2 e2)
theorem slv3 {G : Hp} {vs : List V} (h : Slv G vs [.val r x, .val s y, .val t z]) : ∃ v w v3, vs = [v, w, v3] ∧ r.rd G v x ∧ s.rd G w y ∧ t.rd G v3 z := by
  cases h with
  | cons h t =>
    obtain ⟨w, v3, rfl, h2, h3⟩ := slv2 t
    exact ⟨_, w, v3, rfl, h, h2, h3⟩
theorem ev_tup3 {kk : Nat} (ha : EvA X [a, b, c] Z [.val r x, .val s y, .val t z]) : EvE X (.Tuple [a, b, c] kk pos) Z (rT3 X.K r s t) (x, y, z) := fun G H σ Q E q =>
  toE (pe_tup ca) (ha G H σ _ E fun G1 H1 vs e1 h1 => by
    obtain ⟨v, w, v3, rfl, h2, h3, h4⟩ := slv3 h1
    refine ⟨by show 3 ≤ sizeLine; decide, fun l hl => q _ _ _ (e1.trans (.new e1.s hl)) ?_⟩
    have e2 : Same G1 (upd G1 l (.tup [v, w, v3])) := same_upd (e1.s.free hl)
    exact ⟨l, v, w, v3, rfl, SqT.of upd_same, r.mono e2 h2, s.mono e2 h3, t.mono e2 h4⟩)
variable {y3 : α × β × γ}
end
end PL

/-! Dicts with texts as keys; instances. -/
namespace PL
open PySem PySem.Spec PyProof.Rows L2
/-! ### dicts, plainly -/
def dget {α : Type} : List (Text × α) → Text → Option α
  | [], _ => none
  | (k, x) :: r, t => if k = t then some x else dget r t
def dput {α : Type} : List (Text × α) → Text → α → List (Text × α)
  | [], t, y => [(t, y)]
  | (k, x) :: r, t, y => if k = t then (k, y) :: r else (k, x) :: dput r t y
theorem dget_dput {α : Type} (y : α) (t u : Text) : ∀ l : List (Text × α), dget (dput l t y) u = if t = u then some y else dget l u
  | [] => rfl
  | (k, x) :: r => by
    unfold dput
    by_cases h : k = t
    · rw [if_pos h]
      unfold dget
      by_cases h2 : t = u
      · rw [if_pos (h.trans h2), if_pos h2]
      · rw [if_neg (fun z => h2 (h.symm.trans z)), if_neg h2, if_neg (fun z => h2 (h.symm.trans z))]
    · rw [if_neg h]
      show (if k = u then some x else dget (dput r t y) u) = if t = u then some y else (if k = u then some x else dget r u)
      rw [dget_dput y t u r]
      by_cases h2 : t = u
      · rw [if_neg (fun z => h (z.trans h2.symm)), if_pos h2]
        rw [if_pos h2]
      · rw [if_neg h2, if_neg h2]
theorem dput_new {α : Type} (y : α) (t : Text) : ∀ l : List (Text × α), dget l t = none → dput l t y = l ++ [(t, y)]
  | [], _ => rfl
  | (k, x) :: r, h => by
    unfold dget at h
    split at h
    · cases h
    · rename_i hk
      unfold dput
      rw [if_neg hk, dput_new y t r h]
      rfl
def rD {α : Type} (r : Rel α) : Rel (List (Text × α)) :=
  ⟨fun G v kvs => ∃ d us, v = .ref d ∧ G d = some (.dK us) ∧ Paired (ent r G) us kvs ∧ kvs.length ≤ sizeLine ∧ (kvs.map (fun q : Text × α => q.1)).Nodup, fun e ⟨d, us, h1, h2, h3, h4⟩ => ⟨d, us, h1, e _ _ h2, pmono (fun _ _ h => ⟨h.1, r.mono e h.2.1, h.2.2⟩) h3, h4⟩⟩
section
variable {α : Type} {r : Rel α} {G : Hp}
theorem ent_get {t : Text} : ∀ {us : List (Key × V)} {kvs : List (Text × α)}, Paired (ent r G) us kvs → (valV us (Sum.inr (mkS t) : Key) = none ∧ dget kvs t = none) ∨ ∃ v x, valV us (Sum.inr (mkS t) : Key) = some v ∧ dget kvs t = some x ∧ r.rd G v x
  | _, _, .nil => .inl ⟨rfl, rfl⟩
  | (k, v) :: us, (t', x) :: kvs, .cons h rest => by
    obtain ⟨hk, hv, hko⟩ := h
    have hk' : k = Sum.inr (mkS t') := hk
    by_cases e : t' = t
    · refine .inr ⟨v, x, valV_pos (by show k = _; rw [hk', e]), ?_, hv⟩
      show (if t' = t then some x else _) = some x
      rw [if_pos e]
    · have hne : ¬ k = (Sum.inr (mkS t) : Key) := by
        rw [hk']
        exact fun z => e (by
          have := Sum.inr.inj z
          have h2 : (mkS t').cps.toList = (mkS t).cps.toList := by rw [this]
          simpa [mkS] using h2)
      have e2 : dget ((t', x) :: kvs) t = dget kvs t := by
        show (if t' = t then some x else _) = _
        rw [if_neg e]
      rw [valV_neg hne, e2]
      exact ent_get rest
theorem putK_cons (k : Key) (v : V) (k' : Key) (v' : V) (us : List (Key × V)) (hn : ((k', v') :: us).map (·.1) |>.Nodup) : putK ((k', v') :: us) k v = if k' = k then (k', v) :: us else (k', v') :: putK us k v := by
  unfold putK
  by_cases h : k' = k
  · rw [if_pos h]
    have e : (((k', v') :: us).any fun kv => decide (kv.1 = k)) = true := by simp [h]
    rw [if_pos e, List.map_cons, if_pos h]
    congr 1
    have hm : ∀ q ∈ us, ¬ q.1 = k := fun q hq z => by
      have := (List.nodup_cons.mp hn).1
      exact this (List.mem_map.mpr ⟨q, hq, z.trans h.symm⟩)
    rw [List.map_congr_left (g := id) (fun q hq => by rw [if_neg (hm q hq)]; rfl)]
    simp
  · rw [if_neg h]
    have e : (((k', v') :: us).any fun kv => decide (kv.1 = k)) = us.any fun kv => decide (kv.1 = k) := by simp [h]
    rw [e]
    split
    · rw [List.map_cons, if_neg h]
    · rfl
theorem ent_nd : ∀ {us : List (Key × V)} {kvs : List (Text × α)}, Paired (ent r G) us kvs → (kvs.map (·.1)).Nodup → (us.map (·.1)).Nodup
  | _, _, .nil, _ => List.nodup_nil
  | (k, v) :: us, (t', x) :: kvs, .cons h rest, hn => by
    obtain ⟨h1, h2⟩ := List.nodup_cons.mp hn
    refine List.nodup_cons.mpr ⟨fun hm => h1 ?_, ent_nd rest h2⟩
    obtain ⟨q, hq, hqk⟩ := List.mem_map.mp hm
    obtain ⟨i, hi⟩ := List.getElem?_of_mem hq
    obtain ⟨p, hp, he⟩ := pget rest hi
    refine List.mem_map.mpr ⟨p, List.mem_of_getElem? hp, ?_⟩
    have z : (Sum.inr (mkS p.1) : Key) = Sum.inr (mkS t') := he.1.symm.trans (hqk.trans h.1)
    have z2 : (mkS p.1).cps.toList = (mkS t').cps.toList := by rw [Sum.inr.inj z]
    simpa [mkS] using z2
theorem ent_put {t : Text} {v : V} {x : α} (hv : r.rd G v x) (ht : okT t) : ∀ {us : List (Key × V)} {kvs : List (Text × α)}, Paired (ent r G) us kvs → (kvs.map (·.1)).Nodup → Paired (ent r G) (putK us (Sum.inr (mkS t) : Key) v) (dput kvs t x)
  | _, _, .nil, _ => .cons ⟨rfl, hv, ht⟩ .nil
  | (k, v') :: us, (t', x') :: kvs, .cons h rest, hn => by
    have hnd := ent_nd (.cons h rest) hn
    rw [putK_cons _ _ _ _ _ hnd]
    have hk' : k = Sum.inr (mkS t') := h.1
    unfold dput
    by_cases e : t' = t
    · rw [if_pos (show k = _ by rw [hk', e]), if_pos e]
      exact .cons ⟨h.1, hv, h.2.2⟩ rest
    · have hne : ¬ k = (Sum.inr (mkS t) : Key) := by
        rw [hk']
        exact fun z => e (by
          have h2 : (mkS t').cps.toList = (mkS t).cps.toList := by rw [Sum.inr.inj z]
          simpa [mkS] using h2)
      rw [if_neg hne, if_neg e]
      exact .cons h (ent_put hv ht rest (List.nodup_cons.mp hn).2)
end
theorem dput_keys {α : Type} (t : Text) (y : α) : ∀ l : List (Text × α), (dput l t y).map (·.1) = if dget l t = none then l.map (·.1) ++ [t] else l.map (·.1)
  | [] => rfl
  | (k, x) :: r => by
    unfold dput dget
    by_cases h : k = t
    · rw [if_pos h, if_pos h, if_neg (by intro z; cases z)]
      rfl
    · rw [if_neg h, if_neg h]
      show k :: (dput r t y).map (·.1) = _
      rw [dput_keys t y r]
      split <;> rfl
theorem dget_mem {α : Type} {t : Text} : ∀ {l : List (Text × α)}, dget l t = none → t ∉ l.map (·.1)
  | [], _ => by simp
  | (k, x) :: r, h => by
    unfold dget at h
    split at h
    · cases h
    · rename_i hk
      intro hm
      rcases List.mem_cons.mp hm with e | hm
      · exact hk e.symm
      · exact dget_mem h hm
theorem dput_nd {α : Type} {t : Text} {y : α} {l : List (Text × α)} (h : (l.map (·.1)).Nodup) : ((dput l t y).map (·.1)).Nodup := by
  rw [dput_keys]
  split
  · rename_i hn
    exact List.nodup_append.mpr ⟨h, by simp, fun a ha b hb z => by
      rw [List.mem_singleton.mp hb] at z
      exact dget_mem hn (z ▸ ha)⟩
  · exact h
theorem dput_len {α : Type} (t : Text) (y : α) (l : List (Text × α)) : (dput l t y).length ≤ l.length + 1 := by
  have e : (dput l t y).length = ((dput l t y).map (·.1)).length := by rw [List.length_map]
  rw [e, dput_keys]
  split
  · rw [List.length_append, List.length_map]
    exact Nat.le_refl _
  · rw [List.length_map]
    exact Nat.le_succ _
section
variable {X : Cx} {Z : Ctx} {α β γ : Type} {r : Rel α} {s : Rel β} {x : α} {pos p pos' : Pos} {a b c d e o : Expr} {D : Ends} {rest : List Stmt} {n : Str} {k : Nat} {t : Text} {kvs : List (Text × α)}
theorem cm_inDC (j : Nat) {l : Addr} (hr : Room k X.A) (ha : EvE X a Z rC t) (hb : EvE X b Z rRef l) (hj : Z.ce[j]? = some (.dic l r kvs)) (hm : behindInMarks .In b = false := by rfl) : CmpE X .In a b Z (dget kvs t).isSome := ⟨hm, _, pc_din (hu_of hr) ce ce, fun G H σ Q E q =>
  ha G H σ _ E fun G1 H1 v e1 h1 => hb G1 H1 σ _ (E.ext e1) fun G2 H2 w e2 h2 => by
    obtain ⟨rfl, _⟩ : v = .str (mkS t) ∧ okT t := h1
    obtain rfl : w = .ref l := h2
    obtain ⟨_, _, u, g0, us, rfl, g2, _⟩ := (E.ext (e1.trans e2)).ce _ (List.mem_of_getElem? hj)
    refine ⟨l, _, rfl, DGet.k (k := Sum.inr (mkS t)) g0, ?_⟩
    have z : (valV us (Sum.inr (mkS t) : Key)).isSome = (dget kvs t).isSome := by
      rcases ent_get (t := t) g2 with ⟨q1, q2⟩ | ⟨v, y, q1, q2, _⟩ <;> rw [q1, q2] <;> rfl
    rw [z]
    exact q G2 H2 (e1.trans e2)⟩
theorem Env.cellD {G H : Hp} {σ : L2.St} {j : Nat} {c c' : Cell} {u : HO} (E : Env Z G H σ) (hj : Z.ce[j]? = some c) (ha : c'.addr = c.addr) (hi : c'.is G u) : Env (Z.setC (Z.ce.set j c')) G (upd H c.addr u) σ := by
  have hjl : j < Z.ce.length := (List.getElem?_eq_some_iff.mp hj).1
  obtain ⟨h0, hG, u0, hH, _⟩ := E.ce _ (List.mem_of_getElem? hj)
  have s1 : ∀ F : Hp, F c.addr = none → Same F H → Same F (upd H c.addr u) := fun F hF s b x e => by
    rw [upd_ne (ne_of_none e hF)]
    exact s b x e
  have e2 : (Z.ce.map Cell.addr)[j]? = some c.addr := by rw [List.getElem?_map, hj]; rfl
  have hm : (Z.ce.set j c').map Cell.addr = Z.ce.map Cell.addr := by
    rw [List.map_set, ha]
    exact set_self e2
  refine ⟨⟨E.ex.g, SmF.updo hG E.ex.s, s1 _ h0 E.ex.h, E.ex.n⟩, E.ab, E.sl, fun q hq => ?_, by show ((Z.ce.set j _).map Cell.addr).Nodup; rw [hm]; exact E.nd⟩
  obtain ⟨i, hi'⟩ := List.getElem?_of_mem hq
  have hi2 : (Z.ce.set j c')[i]? = some q := hi'
  by_cases hij : j = i
  · subst hij
    rw [List.getElem?_set_self hjl] at hi2
    have e := Option.some.inj hi2
    subst e
    exact ⟨by rw [ha]; exact h0, by rw [ha]; exact hG, u, by rw [ha]; exact upd_same, hi⟩
  · rw [List.getElem?_set_ne hij] at hi2
    refine Cell.ok_upd (E.ce q (List.mem_of_getElem? hi2)) fun z => hij ?_
    exact nd_inj E.nd e2 (by rw [List.getElem?_map, hi2]; exact congrArg some z)
theorem goes_putD (j : Nat) {l : Addr} {y : α} (hr : Room k X.A) (hv : EvE X e Z r y) (hd : EvE X d Z rRef l) (ha : EvE X a Z rC t) (hj : Z.ce[j]? = some (.dic l r kvs)) (hl : kvs.length < sizeLine)
    (h : Goes X rest (Z.setC (Z.ce.set j (.dic l r (dput kvs t y)))) D) (hs : swapsWith e (some (.Subscript d a pos')) pos.line X.env = pure false := by rfl) : Goes X (.Assign [.Subscript d a pos'] e pos :: rest) Z D :=
  goes_of (ps_dput (hu_of hr) ce ce ce hs) fun G H σ E => hv G H σ _ E fun G1 H1 v e1 h1 => hd G1 H1 σ _ (E.ext e1) fun G2 H2 w e2 h2 => ha G2 H2 σ _ (E.ext (e1.trans e2)) fun G3 H3 u e3 h3 => by
    obtain rfl : w = .ref l := h2
    obtain ⟨rfl, ot⟩ : u = .str (mkS t) ∧ okT t := h3
    have E3 := E.ext ((e1.trans e2).trans e3)
    obtain ⟨_, _, u, g0, us, rfl, g2, g3, hn⟩ := E3.ce _ (List.mem_of_getElem? hj)
    exact ⟨l, _, rfl, DPut.k (k := Sum.inr (mkS t)) g0 (by rw [plen g2]; exact hl), h G3 _ σ (E3.cellD (c' := .dic l r (dput kvs t y)) hj rfl ⟨_, rfl, ent_put (r.mono (e2.trans e3).g h1) ot g2 hn, Nat.le_trans (dput_len t y kvs) hl, dput_nd hn⟩)⟩
/-! ### instances -/
def rObj {α : Type} (C : Addr) (fs : α → List (Str × Slot)) : Rel α :=
  ⟨fun G v x => ∃ o dx vfs, v = .ref o ∧ G o = some (.ins C dx vfs) ∧ G dx = some (.own o) ∧ Flds G vfs (fs x), fun e ⟨o, dx, vfs, h1, h2, h3, h4⟩ => ⟨o, dx, vfs, h1, e _ _ h2, e _ _ h3, h4.mono e⟩⟩
theorem flds_get {G : Hp} {f : Str} {sl : Slot} : ∀ {vfs : List (Str × V)} {fs : List (Str × Slot)}, Flds G vfs fs → fs.lookup f = some sl → ∃ v, vfs.lookup f = some v ∧ sl.ok G (some v)
  | _, _, .nil, h => by cases h
  | _, _, .cons (n := m) (v := v) hs rest, h => by
    by_cases e : f == m
    · simp only [List.lookup, e] at h ⊢
      cases h
      exact ⟨v, rfl, hs⟩
    · simp only [List.lookup, e] at h ⊢
      exact flds_get rest h
theorem flds_none {G : Hp} {f : Str} : ∀ {vfs : List (Str × V)} {fs : List (Str × Slot)}, Flds G vfs fs → fs.lookup f = none → vfs.lookup f = none
  | _, _, .nil, h => rfl
  | _, _, .cons (n := m) (v := v) hs rest, h => by
    by_cases e : f == m
    · simp only [List.lookup, e] at h
      cases h
    · simp only [List.lookup, e] at h ⊢
      exact flds_none rest h
def putS (f : Str) (s : Slot) : List (Str × Slot) → List (Str × Slot)
  | [] => [(f, s)]
  | (g, t) :: r => if g = f then (g, s) :: r else (g, t) :: putS f s r
theorem flds_put {G : Hp} {f : Str} {s : Slot} {v : V} (h : s.ok G (some v)) : ∀ {vfs : List (Str × V)} {fs : List (Str × Slot)}, Flds G vfs fs → Flds G (putF f v vfs) (putS f s fs)
  | _, _, .nil => .cons h .nil
  | _, _, .cons (n := m) hs rest => by
    unfold putF putS
    by_cases e : m = f
    · rw [if_pos e, if_pos e]
      exact .cons h rest
    · rw [if_neg e, if_neg e]
      exact .cons hs (flds_put h rest)
theorem flds_len {G : Hp} : ∀ {vfs : List (Str × V)} {fs : List (Str × Slot)}, Flds G vfs fs → vfs.length = fs.length
  | _, _, .nil => rfl
  | _, _, .cons _ t => by rw [List.length_cons, List.length_cons, flds_len t]
theorem ev_fld {C : Addr} {fs : α → List (Str × Slot)} {f : Str} {y : β} (hc : Cls X.K C) (hn : NoAttr X.K C f) (ha : EvE X e Z (rObj C fs) x) (hl : (fs x).lookup f = some (.val s y)) (hb : attributeBase e f X.env (eval e X.env) = eval e X.env := by rfl) : EvE X (.Attribute e f pos) Z s y := fun G H σ Q E q =>
  toE (pe_fld ce hb) (ha G H σ _ E fun G1 H1 v e1 h1 => by
    obtain ⟨o, dx, vfs, rfl, g1, g2, g3⟩ := h1
    obtain ⟨v, g4, g5⟩ := flds_get g3 hl
    obtain ⟨v', z, g6⟩ := g5
    cases z
    exact ⟨o, C, dx, vfs, v, rfl, e1.s.ins g1, hc, hn, g4, q G1 H1 v e1 g6⟩)
theorem ev_fldC (j : Nat) {l dx C : Addr} {fs : List (Str × Slot)} {f : Str} {y : β} (hc : Cls X.K C) (hn : NoAttr X.K C f) (ha : EvE X e Z rRef l) (hj : Z.ce[j]? = some (.ins l dx C fs)) (hl : fs.lookup f = some (.val s y)) (hb : attributeBase e f X.env (eval e X.env) = eval e X.env := by rfl) : EvE X (.Attribute e f pos) Z s y := fun G H σ Q E q =>
  toE (pe_fld ce hb) (ha G H σ _ E fun G1 H1 v e1 h1 => by
    obtain rfl : v = .ref l := h1
    obtain ⟨_, _, u, g0, g1, vfs, rfl, g3⟩ := (E.ext e1).ce _ (List.mem_of_getElem? hj)
    obtain ⟨v, g4, g5⟩ := flds_get g3 hl
    obtain ⟨v', z, g6⟩ := g5
    cases z
    exact ⟨l, C, dx, vfs, v, rfl, g0, hc, hn, g4, q G1 H1 v e1 g6⟩)
theorem goes_fld (j : Nat) {l dx C : Addr} {fs : List (Str × Slot)} {f : Str} (hc : Cls X.K C) (hn : NoAttr X.K C f) (he : EvE X e Z r x) (ho : EvE X o Z rRef l) (hj : Z.ce[j]? = some (.ins l dx C fs)) (hl : fs.length < 1000)
    (h : Goes X rest (Z.setC (Z.ce.set j (.ins l dx C (putS f (.val r x) fs)))) D) (hs : swapsWith e (some (.Attribute o f pos')) pos.line X.env = pure false := by rfl) : Goes X (.Assign [.Attribute o f pos'] e pos :: rest) Z D :=
  goes_of (ps_fld ce ce hs) fun G H σ E => he G H σ _ E fun G1 H1 v e1 h1 => ho G1 H1 σ _ (E.ext e1) fun G2 H2 w e2 h2 => by
    obtain rfl : w = .ref l := h2
    have E2 := E.ext (e1.trans e2)
    obtain ⟨_, _, u, g0, g1, vfs, rfl, g3⟩ := E2.ce _ (List.mem_of_getElem? hj)
    exact ⟨l, C, dx, vfs, rfl, g0, hc, hn, by rw [flds_len g3]; exact hl, h G2 _ σ (E2.cellD (c' := .ins l dx C (putS f (.val r x) fs)) hj rfl ⟨g1, _, rfl, flds_put (s := .val r x) (v := v) ⟨v, rfl, r.mono e2.g h1⟩ g3⟩)⟩
theorem goes_fldD (r : Rel α) (j : Nat) {l dx C : Addr} {fs : List (Str × Slot)} {f : Str} {p2 : Pos} (hc : Cls X.K C) (hn : NoAttr X.K C f) (ho : EvE X o Z rRef l) (hj : Z.ce[j]? = some (.ins l dx C fs)) (hl : fs.length < 1000)
    (h : ∀ m, Goes X rest (Z.setC (.dic m r [] :: Z.ce.set j (.ins l dx C (putS f (.val rRef m) fs)))) D) (hs : swapsWith (.Dict [] [] p2) (some (.Attribute o f pos')) pos.line X.env = pure false := by rfl) : Goes X (.Assign [.Attribute o f pos'] (.Dict [] [] p2) pos :: rest) Z D :=
  goes_of (ps_fld ce pe_dnewK hs) fun G H σ E => fun m nm => ho G _ σ _ (E.ext (.newM E.le nm)) fun G2 H2 w e2 h2 => by
    obtain rfl : w = .ref l := h2
    have e1 := Ext.newM (o := .dK []) E.le nm
    have E2 := E.ext (e1.trans e2)
    obtain ⟨_, _, u, g0, g1, vfs, rfl, g3⟩ := E2.ce _ (List.mem_of_getElem? hj)
    have nml : m ≠ l := fun z => by
      obtain ⟨_, _, u, q0, _⟩ := E.ce _ (List.mem_of_getElem? hj)
      have q0' : H l = some u := q0
      rw [← z, nm] at q0'
      cases q0'
    have E3 := E2.cellD (c' := .ins l dx C (putS f (.val rRef m) fs)) hj rfl ⟨g1, _, rfl, flds_put (s := .val rRef m) (v := .ref m) ⟨.ref m, rfl, rfl⟩ g3⟩
    refine ⟨l, C, dx, vfs, rfl, g0, hc, hn, by rw [flds_len g3]; exact hl, h m G2 _ σ ⟨E3.ex, E3.ab, E3.sl, fun q hq => ?_, ?_⟩⟩
    · rcases List.mem_cons.mp hq with rfl | hq
      · have hG2 : G2 m = none := e2.n m (by rw [upd_same]; exact fun z => by cases z) (E.le.free nm)
        refine ⟨E.ex.h.free nm, hG2, .dK [], ?_, [], rfl, .nil, Nat.zero_le _, List.nodup_nil⟩
        show (upd H2 l _) m = _
        rw [upd_ne nml]
        exact e2.h _ _ upd_same
      · exact E3.ce q hq
    · refine List.nodup_cons.mpr ⟨fun hm => ?_, E3.nd⟩
      have hm2 : m ∈ Z.ce.map Cell.addr := by
        have e2' : (Z.ce.map Cell.addr)[j]? = some l := by rw [List.getElem?_map, hj]; rfl
        have : (Z.ce.set j (.ins l dx C (putS f (.val rRef m) fs))).map Cell.addr = Z.ce.map Cell.addr := by
          rw [List.map_set]
          exact set_self e2'
        rw [← this]
        exact hm
      obtain ⟨q, hq, hqm⟩ := List.mem_map.mp hm2
      obtain ⟨_, _, u, q0, _⟩ := E.ce q hq
      rw [hqm, nm] at q0
      cases q0
theorem putS_map {G G' : Hp} (e : Same G G') {f : Str} {s s' : Slot} {vfs : List (Str × V)} {fs : List (Str × Slot)} (h : Flds G vfs fs) (hl : fs.lookup f = some s) (hs : ∀ v, s.ok G (some v) → s'.ok G' (some v)) : Flds G' vfs (putS f s' fs) := by
  induction h with
  | nil => cases hl
  | cons hh rest ih =>
    rename_i m v t vs fs'
    unfold putS
    by_cases em : m = f
    · subst em
      rw [if_pos rfl]
      simp only [List.lookup, beq_self_eq_true] at hl
      cases hl
      exact .cons (hs v hh) (rest.mono e)
    · rw [if_neg em]
      have hb : (f == m) = false := by simpa using fun z : f = m => em z.symm
      simp only [List.lookup, hb] at hl
      exact .cons (Slot.ok_mono e hh) (ih hl)
theorem goes_frzFD (i j : Nat) {body : List Stmt} {l dx C m : Addr} {fs : List (Str × Slot)} {f : Str} (hj : Z.ce[j]? = some (.ins l dx C fs)) (hi : Z.ce[i]? = some (.dic m r kvs)) (hij : i ≠ j) (hl : fs.lookup f = some (.val rRef m))
    (h : Goes X body (Z.setC ((Z.ce.set j (.ins l dx C (putS f (.val (rD r) kvs) fs))).eraseIdx i)) D) : Goes X body Z D := fun G H σ E => by
  obtain ⟨c0, cG, u, cH, us, rfl, cP, cL⟩ := E.ce _ (List.mem_of_getElem? hi)
  have c0 : Z.b.H0 m = none := c0
  have cG : G m = none := cG
  have cH : H m = some (.dK us) := cH
  have s1 : Same G (upd G m (.dK us)) := same_upd cG
  have ei : (Z.ce.map Cell.addr)[i]? = some m := by rw [List.getElem?_map, hi]; rfl
  have ej : (Z.ce.map Cell.addr)[j]? = some l := by rw [List.getElem?_map, hj]; rfl
  have hm : (Z.ce.set j (.ins l dx C (putS f (.val (rD r) kvs) fs))).map Cell.addr = Z.ce.map Cell.addr := by
    rw [List.map_set]
    exact set_self ej
  refine h (upd G m (.dK us)) H σ ⟨⟨E.ex.g.trans s1, fun b u hb => ?_, E.ex.h, fun b hb hg => ?_⟩, fun B hB => (E.ab B hB).trans s1, fun k s hk => ?_, fun c hc => ?_, ?_⟩
  · by_cases hbo : b = m
    · subst hbo
      rw [upd_same] at hb
      rw [← hb]
      exact .inl cH
    · rw [upd_ne hbo] at hb
      exact E.ex.s b u hb
  · have hbo : b ≠ m := fun z => hb (z ▸ c0)
    rw [upd_ne hbo]
    exact E.ex.n b hb hg
  · obtain ⟨ov, q1, q2⟩ := E.sl k s hk
    exact ⟨ov, q1, Slot.ok_mono s1 q2⟩
  · have hc : c ∈ (Z.ce.set j (.ins l dx C (putS f (.val (rD r) kvs) fs))).eraseIdx i := hc
    have hne : c.addr ≠ m := fun z => by
      have hmm : m ∈ ((Z.ce.set j (.ins l dx C (putS f (.val (rD r) kvs) fs))).eraseIdx i).map Cell.addr := z ▸ List.mem_map_of_mem hc
      rw [map_erase, hm] at hmm
      obtain ⟨q, hq⟩ := List.getElem?_of_mem hmm
      rw [List.getElem?_eraseIdx] at hq
      split at hq
      · have := nd_inj E.nd ei hq
        omega
      · have := nd_inj E.nd ei hq
        omega
    have hc2 := List.mem_of_mem_eraseIdx hc
    obtain ⟨q, hq⟩ := List.getElem?_of_mem hc2
    by_cases hqj : j = q
    · subst hqj
      rw [List.getElem?_set_self (List.getElem?_eq_some_iff.mp hj).1] at hq
      have e := Option.some.inj hq
      subst e
      obtain ⟨a0, aG, u, aH, a1, vfs, rfl, a2⟩ := E.ce _ (List.mem_of_getElem? hj)
      refine ⟨a0, by rw [upd_ne hne]; exact aG, _, aH, s1 _ _ a1, vfs, rfl, putS_map s1 a2 hl fun v ⟨v', hv, hr⟩ => ⟨v', hv, ?_⟩⟩
      have hr' : v' = .ref m := hr
      subst hr'
      exact ⟨m, us, rfl, upd_same, pmono (fun _ _ h => ⟨h.1, r.mono s1 h.2.1, h.2.2⟩) cP, cL⟩
    · rw [List.getElem?_set_ne hqj] at hq
      have hc' := E.ce c (List.mem_of_getElem? hq)
      exact Cell.ok_G hc' s1 (by rw [upd_ne hne]; exact hc'.2.1)
  · show (((Z.ce.set j _).eraseIdx i).map Cell.addr).Nodup
    rw [map_erase, hm]
    exact E.nd.sublist (List.eraseIdx_sublist _ _)
end
/-! ### __init__ -/
def hid (H : Hp) (o : Addr) : Hp := fun b => if b = o then none else H b
theorem hid_same {H : Hp} {o : Addr} : hid H o o = none := if_pos rfl
theorem hid_ne {H : Hp} {o b : Addr} (h : b ≠ o) : hid H o b = H b := if_neg h
theorem hid_sub (H : Hp) (o : Addr) : Same (hid H o) H := fun b u e => by
  by_cases h : b = o
  · subst h
    rw [hid_same] at e
    cases e
  · rwa [hid_ne h] at e
def spI (C : Addr) (Pr : List Slot → List (Str × Slot) → Prop) : Sp := fun vs H Q _ => ∃ (o dx : Addr) (us : List V) (ss : List Slot) (fs : List (Str × Slot)) (G : Hp), vs = .ref o :: us ∧ Pr ss fs ∧ SmF G H ∧ H o = some (.ins C dx []) ∧ G o = none ∧ G dx = some (.own o) ∧ Slv G us ss ∧
  ∀ G' H' vfs, Ext G (hid H o) G' H' → G' o = none → H' o = some (.ins C dx vfs) → Flds G' vfs fs → Q .non H'
def NxI (G0 H : Hp) (o dx C : Addr) (fs : List (Str × Slot)) (H' : Hp) : Prop := ∃ G' vfs, Ext G0 (hid H o) G' H' ∧ G' o = none ∧ H' o = some (.ins C dx vfs) ∧ Flds G' vfs fs
abbrev retI (G0 H : Hp) (o dx C : Addr) (fs : List (Str × Slot)) : Ends := { nx := fun _ H' => NxI G0 H o dx C fs H', rt := fun v H' => v = .non ∧ NxI G0 H o dx C fs H' }
section
variable {P : Program} {w : World} {K : PySem.W.Frag} {mg : Str → Option Value} {base : Heap}
theorem fn_i {x qual : Str} {st : Stmt} {f C : Addr} {fd : FuncData} {N ps : List Str} {k : Nat} {Pr : List Slot → List (Str × Slot) → Prop} (F : FunD K x qual (defArgs st) (defBody st) (defScope st) [] [] f fd) (S : FnScope N ps (defScope st)) (len : ∀ ss fs, Pr ss fs → ss.length + 1 = ps.length)
    (body : ∀ (cdv : Value) (A : Around) (outer : List PySem.Env) (s : Shared) (H : Hp) (E : XK) (G : Hp) (o dx : Addr) (ss : List Slot) (fs : List (Str × Slot)), Room k (A.deeper (envOfC qual (defScope st) s.heap.objs.size f cdv)) → Pr ss fs →
      Goes (cxOf CX0 P w K mg base N qual (defScope st) f cdv A outer s H E).nox (defBody st) ⟨⟨G, hid H o, []⟩, (.val rRef o :: ss) ++ List.replicate (N.length - (ss.length + 1)) .any, [.ins o dx C []]⟩ (retI G H o dx C fs)) : FnOk P w K mg base CX0 (k + 1) f fd ps (spI C Pr) := by
  refine F.ok S (fun vs H Q E h => ?_) (fun cdv A outer s H vs Q E hr h => ?_)
  · obtain ⟨o, dx, us, ss, fs, G, rfl, h1, h2, h3, h4, h5, h6, h7⟩ := h
    rw [List.length_cons, slv_len h6, len ss fs h1]
  · obtain ⟨o, dx, us, ss, fs, G, rfl, h1, h2, h3, h4, h5, h6, h7⟩ := h
    refine ⟨wSs _ _, PSs.nox css, ?_⟩
    constructor
    intro pins s' I
    have sl : Slv G (.ref o :: us) (.val rRef o :: ss) := .cons rfl h6
    have st0 := env_start (N := N) h2 sl
    have E0 : Env ⟨⟨G, hid H o, []⟩, (.val rRef o :: ss) ++ List.replicate (N.length - (ss.length + 1)) .any, [.ins o dx C []]⟩ G H (L2.start N (.ref o :: us)) := by
      refine ⟨⟨Same.refl _, h2, hid_sub H o, fun b _ z => z⟩, (fun B hB => by cases hB), st0.sl, fun c hc => ?_, by simp⟩
      rw [List.mem_singleton.mp hc]
      exact ⟨hid_same, h4, _, h3, h5, [], rfl, .nil⟩
    refine thn ((body cdv A outer s H E G o dx ss fs hr h1 G H (L2.start N (.ref o :: us)) E0).run pins s' I) fun fl s1 hq => ?_
    cases fl with
    | next =>
      obtain ⟨σ', H', I', G', vfs, q1, q2, q3, q4⟩ := hq
      exact ⟨σ', H', I', h7 G' H' vfs q1 q2 q3 q4⟩
    | brk => exact hq
    | cont => exact hq
    | ret u =>
      obtain ⟨v, σ', H', I', rv, rfl, G', vfs, q1, q2, q3, q4⟩ := hq
      exact ⟨_, σ', H', I', rv, h7 G' H' vfs q1 q2 q3 q4⟩
def MakeOk (P : Program) (w : World) (K : PySem.W.Frag) (mg : Str → Option Value) (base : Heap) (n : Str) (C : Addr) (k : Nat) (sp : Sp) : Prop :=
  ∃ f fd ps, FnOk P w K mg base CX0 k f fd ps sp ∧ mg n = some (.ref C) ∧ Mk K C f ∧ Binds K fd ps []
def MethOk (P : Program) (w : World) (K : PySem.W.Frag) (mg : Str → Option Value) (base : Heap) (C : Addr) (m : Str) (k : Nat) (sp : Sp) : Prop :=
  ∃ f fd ps, FnOk P w K mg base CX0 k f fd ps sp ∧ Meth K C m f ∧ Binds K fd ps [] ∧ Cls K C
end
section
variable {X : Cx} {Z : Ctx} {α β γ : Type} {r : Rel α} {s : Rel β} {x : α} {pos p apos : Pos} {e o : Expr} {es : List Expr} {D : Ends} {rest : List Stmt} {n m : Str} {k : Nat} {C : Addr}
theorem goes_endI {G0 H : Hp} {l dx : Addr} {fs : List (Str × Slot)} {rt : VK} {bk ct : L2.St → Hp → Prop} (hc : Z.ce = [.ins l dx C fs]) (h0 : Z.b.G0 = G0 := by rfl) (h1 : Z.b.H0 = hid H l := by rfl) : Goes X [] Z { nx := fun _ H' => NxI G0 H l dx C fs H', rt := rt, bk := bk, ct := ct } := goes_nil fun G H' σ E => by
  obtain ⟨a0, aG, u, aH, a1, vfs, rfl, a2⟩ := E.ce (.ins l dx C fs) (by rw [hc]; exact List.mem_singleton.mpr rfl)
  exact ⟨G, vfs, by rw [← h0, ← h1]; exact E.ex, aG, aH, a2⟩
theorem ev_make {Pr : List Slot → List (Str × Slot) → Prop} {fs : α → List (Str × Slot)} {ss : List Slot} (M : MakeOk X.prog X.w X.K X.mg X.base n C k (spI C Pr)) (hr : Room (k + 1) X.A) (ha : EvA X (e :: es) Z ss) (hP : Pr ss (fs x))
    (hg : Gl X n := by rfl) (hdb : (n == ("__debug__" : Str)) = false := by decide) (he : starEach (e :: es) X.env = (false, eval e X.env) :: starEach es X.env := by rfl) (hpl : (backTo pos (starEach es X.env)).any (·.1) = false := by rfl) :
    EvE X (.Call (.Name n p) (e :: es) [] pos) Z (rObj C fs) x := fun G H σ Q E q => by
  obtain ⟨f, fd, ps, F, hm, hk, hb⟩ := M
  refine toE (pe_make (E := fun _ _ _ => False) hk F hr hg hm hb .nil pass0 ca hdb he hpl) (ha G H σ _ E fun G1 H1 vs e1 h1 => fun l dx nl nd ne => ?_)
  have gl : G1 l = none := e1.s.free nl
  have gd : G1 dx = none := e1.s.free nd
  have s1 : Same G1 (upd G1 dx (.own l)) := same_upd gd
  refine ⟨l, dx, vs, ss, fs x, upd G1 dx (.own l), by rw [List.append_nil], hP, fun b u hb => ?_, upd_same, by rw [upd_ne (Ne.symm ne)]; exact gl, upd_same, h1.mono s1, fun G2 H2 vfs e2 g1 g2 g3 => ⟨rfl, ?_⟩⟩
  · by_cases hbd : b = dx
    · subst hbd
      rw [upd_same] at hb
      rw [upd_ne ne, upd_same]
      exact .inl hb
    · rw [upd_ne hbd] at hb
      have hbl : b ≠ l := fun z => by rw [z, gl] at hb; cases hb
      rw [upd_ne hbl, upd_ne hbd]
      exact e1.s _ _ hb
  · have s2 : Same G2 (upd G2 l (.ins C dx vfs)) := same_upd g1
    refine q (upd G2 l (.ins C dx vfs)) H2 (.ref l) ⟨(e1.g.trans s1).trans (e2.g.trans s2), fun b u hb => ?_, fun b u hb => ?_, fun b hb hg => ?_⟩ ⟨l, dx, vfs, rfl, upd_same, s2 _ _ (e2.g _ _ upd_same), g3.mono s2⟩
    · by_cases hbl : b = l
      · subst hbl
        rw [upd_same] at hb
        rw [← hb]
        exact .inl g2
      · rw [upd_ne hbl] at hb
        exact e2.s _ _ hb
    · have hb1 := e1.h _ _ hb
      have hbl : b ≠ l := ne_of_none hb1 nl
      have hbd : b ≠ dx := ne_of_none hb1 nd
      refine e2.h _ _ ?_
      rw [hid_ne hbl, upd_ne hbl, upd_ne hbd]
      exact hb1
    · have hb1 : H1 b ≠ none := nn_same e1.h hb
      have hbl : b ≠ l := fun z => hb1 (z ▸ nl)
      have hbd : b ≠ dx := fun z => hb1 (z ▸ nd)
      rw [upd_ne hbl]
      refine e2.n b ?_ ?_
      · rw [hid_ne hbl, upd_ne hbl, upd_ne hbd]
        exact hb1
      · rw [upd_ne hbd]
        exact e1.n b hb hg
end
end PL

/-! More ways: lists put together, reversed ranges, chains, ends of texts, in of lists. -/
namespace PL
open PySem PySem.Spec PyProof.Rows L2
section
variable {X : Cx} {Z : Ctx} {α β γ : Type} {r : Rel α} {s : Rel β} {x : α} {pos p apos : Pos} {a b c d e o tg : Expr} {es : List Expr} {D : Ends} {rest : List Stmt} {n : Str} {k : Nat} {t u : Text} {i j l : Int}
/-! ### slices by plain numbers -/
/-! ### list + list -/
def rCatG (K : PySem.W.Frag) : R2 := fun x y H Q => ∃ l b xs zs, x = .ref l ∧ y = .ref b ∧ SqL K H l xs ∧ SqL K H b zs ∧ xs.length + zs.length ≤ sizeLine ∧ ∀ p, H p = none → Q (.ref p) (upd H p (.lst (xs ++ zs)))
theorem op_catG : OpR X (binaryOp .Add) (rCatG X.K) := by
  intro pins s σ H x y v u Q I rx ry h
  obtain ⟨l, b, xs, zs, rfl, rfl, hH, hB, hz, q⟩ := h
  cases rx
  cases ry
  obtain ⟨its, r, ⟨⟨cls, dd, data, sl⟩, n, ho, hc, hd0, hd⟩, z⟩ := I.list hH
  obtain ⟨its2, r2, ⟨⟨cls2, dd2, data2, sl2⟩, n2, ho2, hc2, hd02, hd2⟩, z2⟩ := I.list hB
  simp only at hc hd hc2 hd2
  subst hc hd hc2 hd2
  have ea : its.toArray ++ its2.toArray = (its ++ its2).toArray := by simp
  have e1 := r.length
  have e2 := r2.length
  refine concat_meets ⟨_, ho, rfl⟩ ⟨_, ho2, rfl⟩ noFill_list_add seq_list_add PySem.F.slot_list_add PySem.F.entry_list_add (PySem.F.args_list_add_2 _ _) (list_addW l b its.toArray its2.toArray n n2 dd dd2 sl sl2 (by rw [List.size_toArray, List.size_toArray]; omega)) ⟨ho, ho2, ?_⟩
  rw [ea]
  exact ⟨.ref _, _, I.lnew (t' := s.toks) (r.append r2) (by rw [List.length_append]; omega), rfl, q _ I.fresh⟩
theorem ef_cat {xs ys : List α} (ha : EvE X a Z (rL X.K r) xs) (hb : EvE X b Z (rL X.K r) ys) (hl : xs.length + ys.length ≤ sizeLine) : EvF X (.BinOp a .Add b pos) Z r (xs ++ ys) := fun G H σ Q E q =>
  toE (pe_op op_catG ce ce) (ha G H σ _ E fun G1 H1 v e1 h1 => hb G1 H1 σ _ (E.ext e1) fun G2 H2 w e2 h2 => by
    obtain ⟨m, us, rfl, g1, g2, _⟩ := h1
    obtain ⟨m2, us2, rfl, g3, g4, _⟩ := h2
    refine ⟨m, m2, us, us2, rfl, rfl, (e2.g.trf e2.s).seq g1, e2.s.seq g3, by rw [plen g2, plen g4]; exact hl, fun q1 h1 => ?_⟩
    have e3 := Ext.newM (o := .lst (us ++ us2)) e2.s h1
    exact q G2 _ q1 _ ((e1.trans e2).trans e3) (E.ext (e1.trans e2) |>.ex.h.free h1 |> fun _ => (e1.trans e2).h.free h1) (e2.s.free h1) upd_same (papp (pmono (fun _ _ => r.mono e2.g) g2) g4) (by rw [List.length_append]; exact hl))
/-! ### reversed(range(a, b)) -/
/-! ### min, max, int -/
theorem ev_intB {kb : Bool} (hm : X.mg "int" = none) (ha : EvA X [a] Z [.val rB kb]) (hg : Gl X "int" := by rfl) (he : starEach [a] X.env = (false, eval a X.env) :: starEach [] X.env := by rfl) : EvE X (.Call (.Name "int" p) [a] [] pos) Z rI (if kb then 1 else 0) :=
  ev_cb (pe_callTy call_int1 hg hm (by decide +kernel) ca (he := he)) ha fun G H vs Q s h k => by
    obtain ⟨v, rfl, h1⟩ := slv1 h
    cases h1
    exact .inr ⟨kb, rfl, k G H _ (.refl s) rfl⟩
/-! ### a op b op c -/
section
variable {op op' : CmpOp} {R R' : R2} {ra : Rel α} {rb : Rel β} {rc : Rel γ} {xa : α} {xb : β} {xc : γ} {k1 k2 : Bool}
theorem chE (ho : OpR X (compareOp op) R) (ho' : OpR X (compareOp op') R') (ha : EvE X a Z ra xa) (hb : EvE X b Z rb xb) (hc : EvE X c Z rc xc)
    (f1 : ∀ (G H : Hp) (v w : V) (Q : VK), SmF G H → ra.rd G v xa → rb.rd G w xb → Q (.bl k1) H → R v w H Q)
    (f2 : ∀ (G H : Hp) (v w : V) (Q : VK), SmF G H → rb.rd G v xb → rc.rd G w xc → Q (.bl k2) H → R' v w H Q)
    (hm : lastMarks [op, op'] [b, c] = false := by with_unfolding_all rfl) : EvE X (.Compare a [op, op'] [b, c] pos) Z rB (k1 && k2) ∧ EvT X (.Compare a [op, op'] [b, c] pos) Z (k1 && k2) := by
  have core : ∀ G H σ (Q : VK), Env Z G H σ → (∀ G' H', Ext G H G' H' → Q (.bl (k1 && k2)) H') → tChain R R' (wE X a) (wE X b) (wE X c) σ H Q := fun G H σ Q E q =>
    ha G H σ _ E fun G1 H1 v e1 h1 => hb G1 H1 σ _ (E.ext e1) fun G2 H2 w e2 h2 => f1 G2 H2 v w _ e2.s (ra.mono e2.g h1) h2 (by
      refine ⟨k1, rfl, ?_⟩
      cases k1 with
      | false => exact q G2 H2 (e1.trans e2)
      | true =>
        rw [if_pos rfl]
        exact hc G2 H2 σ _ (E.ext (e1.trans e2)) fun G3 H3 u e3 h3 => f2 G3 H3 w u _ e3.s (rb.mono e3.g h2) h3 (q G3 H3 ((e1.trans e2).trans e3)))
  exact ⟨fun G H σ Q E q => toE (pe_chain ho ho' ce ce ce hm) (core G H σ _ E fun G' H' e => q G' H' _ e rfl), fun G H σ Q E q => toT (pt_chain ho ho' ce ce ce hm) (core G H σ _ E fun G' H' e => ⟨_, rfl, q G' H' e⟩)⟩
end
theorem fI0 {f : Int → Int → Bool} {i j : Int} : ∀ (G H : Hp) (v w : V) (Q : VK), SmF G H → rI.rd G v i → rI.rd G w j → Q (.bl (f i j)) H → L2.rI0 (fun i j => .bl (f i j)) v w H Q := fun G H v w Q _ h1 h2 q => ⟨i, j, h1, h2, q⟩
theorem ev_lele (ha : EvE X a Z rI i) (hb : EvE X b Z rI j) (hc : EvE X c Z rI l) (hm : lastMarks [.LtE, .LtE] [b, c] = false := by with_unfolding_all rfl) : EvE X (.Compare a [.LtE, .LtE] [b, c] pos) Z rB (decide (i ≤ j) && decide (j ≤ l)) :=
  (chE op_le op_le ha hb hc (fI0 (f := fun i j => decide (i ≤ j))) (fI0 (f := fun i j => decide (i ≤ j))) hm).1
/-! ### ends of texts -/
def ends (x y : Text) : Bool := decide (y.length ≤ x.length) && decide (x.drop (x.length - y.length) = y)
/-! ### in of lists -/
def isin {α : Type} [DecidableEq α] (x : α) (xs : List α) : Bool := decide (x ∈ xs)
theorem any_eqv [DecidableEq α] {m : Nat} (d : DataR X.K r m) (x : α) : ∀ xs : List α, ((xs.map d.toD).any fun z => PyData.eqv z (d.toD x)) = isin x xs
  | [] => by simp [isin]
  | y :: ys => by
    rw [List.map_cons, List.any_cons, any_eqv d x ys]
    have e : PyData.eqv (d.toD y) (d.toD x) = decide (x = y) := by
      cases h : PyData.eqv (d.toD y) (d.toD x) with
      | true => exact (decide_eq_true ((d.eqv _ _).mp h).symm).symm
      | false => exact (decide_eq_false fun q => by rw [(d.eqv _ _).mpr q.symm] at h; cases h).symm
    rw [e]
    simp [isin]
theorem cm_notInL [DecidableEq α] {m : Nat} {xs : List α} (d : DataR X.K r m) (hr : Room k X.A) (ha : EvE X a Z r x) (hb : EvE X b Z (rL X.K r) xs) (hm : m + 1 ≤ 64 := by decide) (hmk : behindInMarks .NotIn b = false := by rfl) : CmpE X .NotIn a b Z (!isin x xs) := cm2 (op_notInD (by have := hr.un; omega)) hmk ha hb fun G H v w Q s h1 h2 k => by
    refine ⟨d.toD x, xs.map d.toD, strs_mono s _ _ (d.dp _ _ _ h1), strs_mono s _ _ ((dL d).dp _ _ _ h2), shaped_of (d.lay _ _ _ h1) (d.dep _) (by omega), shaped_of ((dL d).lay _ _ _ h2) ((dL d).dep xs) hm, k G H _ (.refl s) ?_⟩
    show V.bl _ = V.bl _
    rw [any_eqv d]
/-! ### not in of dicts -/
theorem goes_setD (r : Rel α) (i : Nat) {p' p2 : Pos} (nd : X.N.Nodup) (h : ∀ m, Goes X rest ⟨Z.b, Z.sl.set i (.val rRef m), .dic m r [] :: Z.ce⟩ D) (hi : X.N[i]? = some n := by rfl) (hx : Loc X.env.scope n := by first | exact Or.inl rfl | exact Or.inr rfl)
    (hs : swapsWith (.Dict [] [] p2) (some (.Name n p')) pos.line X.env = pure false := by rfl) (hf : X.fn n = true ∨ X.env.scope.names.lookup n = some .local := by first | exact .inl rfl | exact .inr rfl | assumption) : Goes X (.Assign [.Name n p'] (.Dict [] [] p2) pos :: rest) Z D :=
  goes_of (ps_set nd hi hx pe_dnewK hs hf) fun G H σ E => fun m nm => by
    have e1 := Ext.newM (o := .dK []) E.le nm
    have E1 := (E.ext e1).setv (i := i) (s := .val rRef m) (ov := some (.ref m)) ⟨.ref m, rfl, rfl⟩
    refine h m G _ _ ⟨E1.ex, E1.ab, E1.sl, fun q hq => ?_, ?_⟩
    · rcases List.mem_cons.mp hq with rfl | hq
      · exact ⟨E.ex.h.free nm, E.le.free nm, .dK [], upd_same, [], rfl, .nil, Nat.zero_le _, List.nodup_nil⟩
      · exact E1.ce q hq
    · refine List.nodup_cons.mpr ⟨fun hm => ?_, E.nd⟩
      obtain ⟨q, hq, hqm⟩ := List.mem_map.mp hm
      obtain ⟨_, _, u, q0, _⟩ := E.ce q hq
      have hqm : q.addr = m := hqm
      rw [hqm, nm] at q0
      cases q0
end
end PL

/-! Lent lists: what is told of them holds none of them. -/
namespace PL
open PySem PySem.Spec PyProof.Rows L2
def NoL {α : Type} (r : Rel α) : Prop := ∀ G o us v x, r.rd G v x → G o = some (.lst us) → r.rd (hid G o) v x
theorem nol_I : NoL rI := fun _ _ _ _ _ h _ => h
theorem nol_C : NoL rC := fun _ _ _ _ _ h _ => h
section
variable {α β γ : Type} {r : Rel α} {s : Rel β} {t : Rel γ} {K : PySem.W.Frag}
end
section
variable {X : Cx} {Z : Ctx} {α β γ : Type} {r : Rel α} {s : Rel β} {x : α} {y : β} {e : Expr}
theorem lent_ext {G H G2 H2 : Hp} {o : Addr} {v : HO} (cG : G o = none) (e : Ext (upd G o v) H G2 H2) : Ext G H (hid G2 o) H2 := by
  refine ⟨fun b u h => ?_, fun b u h => ?_, e.h, fun b h1 h2 => ?_⟩
  · have hb : b ≠ o := fun z => by rw [z, cG] at h; cases h
    rw [hid_ne hb]
    exact e.g _ _ (by rw [upd_ne hb]; exact h)
  · exact e.s _ _ (hid_sub _ _ _ _ h)
  · by_cases hb : b = o
    · rw [hb, hid_same]
    · rw [hid_ne hb]
      exact e.n b h1 (by rw [upd_ne hb]; exact h2)
theorem ev_lent (i j : Nat) {o : Addr} {xs : List α} (hf : NoL s) (hz : Z.sl[i]? = some (.val rRef o)) (hj : Z.ce[j]? = some (.lst o r xs)) (h : EvE X e ⟨Z.b, Z.sl.set i (.val (rL X.K r) xs), Z.ce.eraseIdx j⟩ s y) : EvE X e Z s y := fun G H σ Q E k => by
  obtain ⟨vs, h1, h2, _, h3⟩ := E.frz (X := X) hz hj
  exact h _ H σ Q h3 fun G2 H2 v e2 hv => k (hid G2 o) H2 v (lent_ext h2 e2) (hf _ _ _ _ _ hv (e2.g _ _ upd_same))
end
end PL

/-! Plain helpers of many laws: digits, picks. -/
namespace PL
open PySem PySem.Spec PyProof.Rows L2
section
variable {X : Cx} {Z : Ctx} {α β γ : Type} {r : Rel α} {x : α} {pos p : Pos} {a b c e : Expr} {es : List Expr}
theorem ef_lst {xs : List α} (ha : EvA X es Z (xs.map (.val r))) (hl : xs.length ≤ sizeLine) : EvF X (.List es pos) Z r xs := fun G H σ Q E q =>
  toE (pe_lst ca) (ha G H σ _ E fun G1 H1 vs e1 h1 => by
    have l := slv_len h1
    rw [List.length_map] at l
    exact ⟨by omega, fun t ht => q G1 _ t vs (e1.trans (.newM e1.s ht)) (e1.h.free ht) (e1.s.free ht) upd_same (slvL (ss := []) h1) hl⟩)
/-! ### ways that meet -/
variable {D : Ends} {rest th el : List Stmt} {k : Bool}
theorem goes_ifJ (W : Ctx) (hc : EvT X c Z k) (h1 : k = true → Goes X th Z { D with nx := Nx W }) (h2 : k = false → Goes X el Z { D with nx := Nx W }) (h : Goes X rest W D) : Goes X (.If c th el pos :: rest) Z D :=
  have up : ∀ body, Goes X body Z { D with nx := Nx W } → Goes X body Z { D with nx := wSs X rest D } := fun body hb G H σ E => ⟨fun pins s I => by
    refine thn ((hb G H σ E).run pins s I) fun fl s1 hq => ?_
    cases fl with
    | next =>
      obtain ⟨σ', H', I', G', E'⟩ := hq
      exact ⟨σ', H', I', h G' H' σ' E'⟩
    | brk => exact hq
    | cont => exact hq
    | ret u => exact hq⟩
  goes_if hc (fun q => up _ (h1 q)) (fun q => up _ (h2 q))
theorem goes_to {W : Ctx} {rt : VK} {bk ct : L2.St → Hp → Prop} (hb : Z.b = W.b) (hs : SubS Z.sl W.sl) (hc : Z.ce = W.ce) : Goes X [] Z { nx := Nx W, rt := rt, bk := bk, ct := ct } :=
  goes_nil fun G H σ E => ⟨G, E.weak hb hs hc⟩
end
end PL

/-! Plain readings that may stop: what a def computes, as a plain function; the walk then asks nothing. -/
namespace PL
open PySem PySem.Spec PyProof.Rows L2
inductive Rs (α : Type) : Type
  | ok (a : α) : Rs α
  | ex (c : Nat) : Rs α
  | no : Rs α
def Rs.bd {α β : Type} (m : Rs α) (f : α → Rs β) : Rs β := match m with
  | .ok a => f a
  | .ex c => .ex c
  | .no => .no
noncomputable def Rs.gd {α : Type} (c : Prop) (m : Rs α) : Rs α := @ite _ c (Classical.propDecidable c) m .no
@[simp] theorem Rs.bd_ok {α β : Type} (a : α) (f : α → Rs β) : (Rs.ok a).bd f = f a := rfl
@[simp] theorem Rs.bd_ex {α β : Type} (c : Nat) (f : α → Rs β) : (Rs.ex c).bd f = .ex c := rfl
@[simp] theorem Rs.bd_no {α β : Type} (f : α → Rs β) : (Rs.no : Rs α).bd f = .no := rfl
theorem Rs.bd_as {α β γ : Type} (m : Rs α) (f : α → Rs β) (g : β → Rs γ) : (m.bd f).bd g = m.bd fun x => (f x).bd g := by cases m <;> rfl
theorem Rs.gd_pos {α : Type} {c : Prop} {m : Rs α} (h : c) : Rs.gd c m = m := by unfold Rs.gd; rw [if_pos h]
theorem Rs.bd_inv {α β : Type} {m : Rs α} {f : α → Rs β} {y : β} (h : m.bd f = .ok y) : ∃ x, m = .ok x ∧ f x = .ok y := by
  cases m with
  | ok a => exact ⟨a, rfl, h⟩
  | ex c => cases h
  | no => cases h
theorem Rs.gd_inv {α : Type} {c : Prop} {m : Rs α} {y : α} (h : Rs.gd c m = .ok y) : c ∧ m = .ok y := by
  by_cases hc : c
  · rw [Rs.gd_pos hc] at h
    exact ⟨hc, h⟩
  · unfold Rs.gd at h
    rw [if_neg hc] at h
    cases h
def mapR {α β : Type} (f : α → Rs β) : List α → Rs (List β)
  | [] => .ok []
  | x :: xs => (f x).bd fun y => (mapR f xs).bd fun ys => .ok (y :: ys)
def lcR {α β : Type} (k : α → Rs Bool) (f : α → Rs β) : List α → Rs (List β)
  | [] => .ok []
  | x :: xs => (k x).bd fun b => if b = true then (f x).bd fun y => (lcR k f xs).bd fun ys => .ok (y :: ys) else lcR k f xs
def foldR {α S : Type} (f : S → α → Rs S) : S → List α → Rs S
  | s, [] => .ok s
  | s, x :: xs => (f s x).bd fun s' => foldR f s' xs
inductive Stp (S ζ : Type) : Type
  | nxt (s : S) : Stp S ζ
  | brk (s : S) : Stp S ζ
  | ret (z : ζ) : Stp S ζ
def forX {α S ζ : Type} (f : S → α → Rs (Stp S ζ)) : S → List α → Rs (Stp S ζ)
  | s, [] => .ok (.nxt s)
  | s, x :: xs => (f s x).bd fun o => match o with
    | .nxt s' => forX f s' xs
    | .brk s' => .ok (.brk s')
    | .ret z => .ok (.ret z)
def Stp.fin {S ζ O : Type} (g : S → Rs O) (er : ζ → O) : Stp S ζ → Rs O
  | .nxt s => g s
  | .brk s => g s
  | .ret z => .ok (er z)
def ixR {α : Type} (xs : List α) (i : Int) : Rs α := match atI xs i with
  | some x => .ok x
  | none => .no
theorem ixR_inv {α : Type} {xs : List α} {i : Int} {y : α} (h : ixR xs i = .ok y) : atI xs i = some y := by
  unfold ixR at h
  cases e : atI xs i with
  | none => rw [e] at h; cases h
  | some x => rw [e] at h; cases h; rfl
noncomputable def appR {α : Type} (xs : List α) (x : α) : Rs (List α) := .gd (xs.length < 16777216) (.ok (xs ++ [x]))
noncomputable def catR {α : Type} (x y : List α) : Rs (List α) := .gd (x.length + y.length ≤ 16777216) (.ok (x ++ y))
noncomputable def putR {α : Type} (kvs : List (Text × α)) (t : Text) (y : α) : Rs (List (Text × α)) := .gd (kvs.length < 16777216) (.ok (dput kvs t y))
def sgnR (x : Text) (i : Int) : Rs Text := (ixR x i).bd fun c => .ok [c]
noncomputable def sinR (t y : Text) : Rs Bool := .gd (t.length = 1) (.ok (decide (t.headD 0 ∈ y)))
noncomputable def mulR (i j : Int) : Rs Int := .gd (IntMulOk i j) (.ok (i * j))
noncomputable def modR (i j : Int) : Rs Int := .gd (0 < j) (.ok (i % j))
noncomputable def divR (i j : Int) : Rs Int := .gd (CDivZ i j) (.ok (i.fdiv j))
noncomputable def rngR (n : Int) : Rs (List Int) := .gd (-(2 ^ 62) ≤ n ∧ n ≤ 16777216) (.ok (rngL 0 n.toNat))
def dgetR {α : Type} (kvs : List (Text × α)) (t : Text) : Rs α := match dget kvs t with
  | some x => .ok x
  | none => .no
/-! ### plain rules -/
section
variable {α β S ζ O : Type}
theorem mapR_ok {f : α → Rs β} {g : α → β} : ∀ {xs : List α}, (∀ x ∈ xs, f x = .ok (g x)) → mapR f xs = .ok (xs.map g)
  | [], _ => rfl
  | x :: xs, h => by
    unfold mapR
    rw [h x (List.mem_cons_self ..), mapR_ok fun y hy => h y (List.mem_cons_of_mem _ hy)]
    rfl
theorem lcR_ok {k : α → Rs Bool} {f : α → Rs β} {k' : α → Bool} {g : α → β} : ∀ {xs : List α}, (∀ x ∈ xs, k x = .ok (k' x)) → (∀ x ∈ xs, k' x = true → f x = .ok (g x)) → lcR k f xs = .ok ((xs.filter k').map g)
  | [], _, _ => rfl
  | x :: xs, h, h2 => by
    unfold lcR
    have ih := lcR_ok (xs := xs) (fun y hy => h y (List.mem_cons_of_mem _ hy)) fun y hy => h2 y (List.mem_cons_of_mem _ hy)
    rw [h x (List.mem_cons_self ..), Rs.bd_ok]
    cases e : k' x with
    | true => rw [if_pos rfl, h2 x (List.mem_cons_self ..) e, ih, List.filter_cons_of_pos e]; rfl
    | false => rw [if_neg Bool.false_ne_true, ih, List.filter_cons_of_neg (by rw [e]; exact Bool.false_ne_true)]
theorem foldR_inv {f : S → α → Rs S} {xs : List α} {s0 : S} (I : Nat → S → Prop) (h0 : I 0 s0) (hs : ∀ i x s, xs[i]? = some x → I i s → ∃ s', f s x = .ok s' ∧ I (i + 1) s') : ∃ s, foldR f s0 xs = .ok s ∧ I xs.length s := by
  induction xs generalizing s0 I with
  | nil => exact ⟨s0, rfl, h0⟩
  | cons x xs ih =>
    obtain ⟨s1, e1, i1⟩ := hs 0 x s0 rfl h0
    obtain ⟨s, e, i⟩ := ih (s0 := s1) (fun n => I (n + 1)) i1 fun i y s hy => hs (i + 1) y s (by simpa using hy)
    exact ⟨s, by unfold foldR; rw [e1]; exact e, i⟩
end
/-! ### the walk -/
section
variable {X : Cx} {Z : PL.Ctx} {α β γ S ζ O : Type} {r : Rel α} {s : Rel β} {x : α} {pos p : Pos} {a b c e tg elt : Expr} {es : List Expr} {D : O → Ends} {body rest : List Stmt} {n : Str} {k : Nat}
def EvM (X : Cx) (e : Expr) (Z : PL.Ctx) {α : Type} (r : Rel α) (m : Rs α) : Prop := ∀ x, m = .ok x → EvE X e Z r x
def EvTM (X : Cx) (e : Expr) (Z : PL.Ctx) (m : Rs Bool) : Prop := ∀ x, m = .ok x → EvT X e Z x
def EvWM (X : Cx) (e : Expr) (Z : PL.Ctx) (m : Rs Bool) : Prop := ∀ x, m = .ok x → EvW X e Z x
def EvFM (X : Cx) (e : Expr) (Z : PL.Ctx) {α : Type} (r : Rel α) (m : Rs (List α)) : Prop := ∀ x, m = .ok x → EvF X e Z r x
def EvIM (X : Cx) (tg e : Expr) (Z : PL.Ctx) {α : Type} (r : Rel α) (m : Rs (List α)) : Prop := ∀ x, m = .ok x → EvI X tg e Z r x
def GM {O : Type} (X : Cx) (body : List Stmt) (Z : PL.Ctx) (D : O → Ends) (m : Rs O) : Prop := ∀ o, m = .ok o → Goes X body Z (D o)
theorem ev_ofM {m : Rs α} (h : EvM X e Z r m) (q : m = .ok x) : EvE X e Z r x := h x q
theorem em_ok (h : EvE X e Z r x) : EvM X e Z r (.ok x) := fun y q => by cases q; exact h
theorem etm_ok {k : Bool} (h : EvT X e Z k) : EvTM X e Z (.ok k) := fun y q => by cases q; exact h
theorem efm_ok {xs : List α} (h : EvF X e Z r xs) : EvFM X e Z r (.ok xs) := fun y q => by cases q; exact h
theorem eim_ok {xs : List α} (h : EvI X tg e Z r xs) : EvIM X tg e Z r (.ok xs) := fun y q => by cases q; exact h
theorem em_f {m : Rs (List α)} (h : EvFM X e Z r m) : EvM X e Z (rL X.K r) m := fun y q => ev_f (h y q)
theorem em_bd {m : Rs α} {f : α → Rs β} (hm : EvM X a Z r m) (h : ∀ x, EvE X a Z r x → EvM X e Z s (f x)) : EvM X e Z s (m.bd f) := fun y q => let ⟨x, h1, h2⟩ := Rs.bd_inv q; h x (hm x h1) y h2
theorem em_gd {cd : Prop} {m : Rs β} (h : cd → EvM X e Z s m) : EvM X e Z s (.gd cd m) := fun y q => let ⟨h1, h2⟩ := Rs.gd_inv q; h h1 y h2
theorem etm_bd {m : Rs α} {f : α → Rs Bool} (hm : EvM X a Z r m) (h : ∀ x, EvE X a Z r x → EvTM X e Z (f x)) : EvTM X e Z (m.bd f) := fun y q => let ⟨x, h1, h2⟩ := Rs.bd_inv q; h x (hm x h1) y h2
theorem efm_bd {m : Rs α} {f : α → Rs (List β)} (hm : EvM X a Z r m) (h : ∀ x, EvE X a Z r x → EvFM X e Z s (f x)) : EvFM X e Z s (m.bd f) := fun y q => let ⟨x, h1, h2⟩ := Rs.bd_inv q; h x (hm x h1) y h2
theorem efm_gd {cd : Prop} {m : Rs (List β)} (h : cd → EvFM X e Z s m) : EvFM X e Z s (.gd cd m) := fun y q => let ⟨h1, h2⟩ := Rs.gd_inv q; h h1 y h2
theorem eim_bd {m : Rs α} {f : α → Rs (List β)} (hm : EvM X a Z r m) (h : ∀ x, EvE X a Z r x → EvIM X tg e Z s (f x)) : EvIM X tg e Z s (m.bd f) := fun y q => let ⟨x, h1, h2⟩ := Rs.bd_inv q; h x (hm x h1) y h2
theorem eim_gd {cd : Prop} {m : Rs (List β)} (h : cd → EvIM X tg e Z s m) : EvIM X tg e Z s (.gd cd m) := fun y q => let ⟨h1, h2⟩ := Rs.gd_inv q; h h1 y h2
/-! tests and truths whose parts may stop -/
theorem em_and {m n : Rs Bool} (ha : EvM X a Z rB m) (hb : EvM X (.BoolOp .And (b :: es) pos) Z rB n) : EvM X (.BoolOp .And (a :: b :: es) pos) Z rB (m.bd fun k => if k = true then n else .ok false) := fun y q => by
  obtain ⟨k, h1, h2⟩ := Rs.bd_inv q
  cases k with
  | false => cases h2; exact ev_cast (ev_and (l := false) (ha false h1) fun z => by cases z) rfl
  | true => exact ev_cast (ev_and (l := y) (ha true h1) fun _ => hb y h2) (by cases y <;> rfl)
theorem em_one {op} {m : Rs α} (h : EvM X a Z r m) : EvM X (.BoolOp op [a] pos) Z r m := fun y q => ev_one (h y q)
theorem ewm_or {m n : Rs Bool} (ha : EvTM X a Z m) (hb : EvWM X (.BoolOp .Or (b :: es) pos) Z n) : EvWM X (.BoolOp .Or (a :: b :: es) pos) Z (m.bd fun k => if k = true then .ok true else n) := fun y q => by
  obtain ⟨k, h1, h2⟩ := Rs.bd_inv q
  cases k with
  | true => cases h2; exact ew_or (l := false) (ha true h1) fun z => by cases z
  | false => exact (show (false || y) = y by cases y <;> rfl) ▸ ew_or (l := y) (ha false h1) fun _ => hb y h2
theorem ewm_or1 {m : Rs Bool} (h : EvTM X a Z m) : EvWM X (.BoolOp .Or [a] pos) Z m := fun y q => ew_or1 (h y q)
theorem etm_w {m : Rs Bool} (h : EvWM X e Z m) : EvTM X e Z m := fun y q => ev_w (h y q)
theorem em_if {k : Bool} {m1 m2 : Rs α} (h : EvT X c Z k) (h1 : EvM X a Z r m1) (h2 : EvM X b Z r m2) : EvM X (.IfExp c a b pos) Z r (if k = true then m1 else m2) := fun y q => by
  cases k with
  | true => exact ev_cast (ev_if (y := y) (z := y) h (fun _ => h1 y q) fun z => by cases z) rfl
  | false => exact ev_cast (ev_if (y := y) (z := y) h (fun z => by cases z) fun _ => h2 y q) rfl
/-! ### statements -/
theorem gm_run {o : O} {m : Rs O} (h : GM X body Z D m) (q : m = .ok o) : Goes X body Z (D o) := h o q
variable {m m1 m2 : Rs O}
theorem gm_setF (i : Nat) {p' : Pos} {xs : List α} (nd : X.N.Nodup) (he : EvF X e Z r xs) (h : ∀ o, GM X rest ⟨Z.b, Z.sl.set i (.val rRef o), .lst o r xs :: Z.ce⟩ D m) (hi : X.N[i]? = some n := by rfl) (hx : Loc X.env.scope n := by first | exact Or.inl rfl | exact Or.inr rfl)
    (hs : swapsWith e (some (.Name n p')) pos.line X.env = pure false := by rfl) (hf : X.fn n = true ∨ X.env.scope.names.lookup n = some .local := by first | exact .inl rfl | exact .inr rfl | assumption) : GM X (.Assign [.Name n p'] e pos :: rest) Z D m := fun o q => goes_setF i nd he (fun l => h l o q) hi hx hs hf
theorem gm_setD (r : Rel α) (i : Nat) {p' p2 : Pos} (nd : X.N.Nodup) (h : ∀ l, GM X rest ⟨Z.b, Z.sl.set i (.val rRef l), .dic l r [] :: Z.ce⟩ D m) (hi : X.N[i]? = some n := by rfl) (hx : Loc X.env.scope n := by first | exact Or.inl rfl | exact Or.inr rfl)
    (hs : swapsWith (.Dict [] [] p2) (some (.Name n p')) pos.line X.env = pure false := by rfl) (hf : X.fn n = true ∨ X.env.scope.names.lookup n = some .local := by first | exact .inl rfl | exact .inr rfl | assumption) : GM X (.Assign [.Name n p'] (.Dict [] [] p2) pos :: rest) Z D m := fun o q => goes_setD r i nd (fun l => h l o q) hi hx hs hf
theorem gm_frz (i j : Nat) {o : Addr} {xs : List α} (hz : Z.sl[i]? = some (.val rRef o)) (hj : Z.ce[j]? = some (.lst o r xs)) (h : GM X body ⟨Z.b, Z.sl.set i (.val (rL X.K r) xs), Z.ce.eraseIdx j⟩ D m) : GM X body Z D m := fun o q => goes_frz i j hz hj (h o q)
abbrev DB (X : Cx) (rest : List Stmt) (D : O → Ends) : O → Ends := fun o => { D o with nx := wSs X rest (D o) }
theorem gm_if {th el : List Stmt} {k : Bool} (hc : EvT X c Z k) (h1 : GM X th Z (DB X rest D) m1) (h2 : GM X el Z (DB X rest D) m2) : GM X (.If c th el pos :: rest) Z D (if k = true then m1 else m2) := fun o q => by
  cases k with
  | true => exact goes_if hc (fun _ => h1 o q) fun z => by cases z
  | false => exact goes_if hc (fun z => by cases z) fun _ => h2 o q
theorem gm_on (h : GM X rest Z D m) : GM X [] Z (DB X rest D) m := fun o q => goes_on (h o q)
abbrev DN (Zs : S → PL.Ctx) : S → Ends := fun s => { nx := Nx (Zs s), rt := fun _ _ => False }
theorem gm_to {Zs : S → PL.Ctx} (s : S) (hb : Z.b = (Zs s).b) (hs : SubS Z.sl (Zs s).sl) (hc : Z.ce = (Zs s).ce) : GM X [] Z (DN Zs) (.ok s) := fun o q => by cases q; exact goes_to hb hs hc
theorem gm_ifJ {th el : List Stmt} {k : Bool} {m1 m2 : Rs S} {g : S → Rs O} (Zs : S → PL.Ctx) (hc : EvT X c Z k) (h1 : GM X th Z (DN Zs) m1) (h2 : GM X el Z (DN Zs) m2) (h : ∀ s, GM X rest (Zs s) D (g s)) : GM X (.If c th el pos :: rest) Z D ((if k = true then m1 else m2).bd g) := fun o q => by
  obtain ⟨s, q1, q2⟩ := Rs.bd_inv q
  have up : ∀ body, Goes X body Z { nx := Nx (Zs s), rt := fun _ _ => False } → Goes X body Z { D o with nx := Nx (Zs s) } := fun body hb G H σ E => ⟨fun pins s0 I => by
    refine thn ((hb G H σ E).run pins s0 I) fun fl s1 hq => ?_
    cases fl with
    | next => exact hq
    | brk => obtain ⟨_, _, _, hq⟩ := hq; exact hq.elim
    | cont => obtain ⟨_, _, _, hq⟩ := hq; exact hq.elim
    | ret u => obtain ⟨_, _, _, _, _, hq⟩ := hq; exact hq.elim⟩
  cases k with
  | true => exact goes_ifJ (Zs s) hc (fun _ => up _ (h1 s q1)) (fun z => by cases z) (h s o q2)
  | false => exact goes_ifJ (Zs s) hc (fun z => by cases z) (fun _ => up _ (h2 s q1)) (h s o q2)
theorem gm_ret {o : O} (he : EvE X e Z r x) (hrt : (D o).rt = Rt Z.b.G0 Z.b.H0 (fun G v => r.rd G v x) := by rfl) : GM X (.Return (some e) pos :: rest) Z D (.ok o) := fun o' q => by
  cases q
  exact goes_ret he fun G H v σ E h => by rw [hrt]; exact ⟨G, E.ex, h⟩
theorem gm_retF {o : O} {xs : List α} (he : EvF X e Z r xs) (hrt : (D o).rt = RtF Z.b.G0 Z.b.H0 r xs := by rfl) : GM X (.Return (some e) pos :: rest) Z D (.ok o) := fun o' q => by
  cases q
  exact goes_of (ps_ret ce) fun G H σ E => he G H σ _ E fun G1 H1 l us e1 q1 q2 q3 q4 q5 => by
    have E1 := E.ext e1
    rw [hrt]
    exact ⟨G1, l, us, rfl, E1.ex, E.ex.h.free q1, q2, q3, q4, q5⟩
theorem gm_append (i j : Nat) {o : Addr} {xs : List α} {f : List α → Rs O} {px pa pc : Pos} (he : EvE X e Z r x) (hz : Z.sl[i]? = some (.val rRef o)) (hj : Z.ce[j]? = some (.lst o r xs))
    (h : ∀ ys, GM X rest (Z.setC (Z.ce.set j (.lst o r ys))) D (f ys)) (hN : X.N[i]? = some n := by rfl) (hv : Vis X.env.scope n := by first | exact Or.inl rfl | exact Or.inr (Or.inl rfl) | exact Or.inr (Or.inr rfl))
    (hbase : attributeBase (.Name n px) "append" X.env (eval (.Name n px) X.env) = eval (.Name n px) X.env := by rfl)
    (hfew : ((backTo pc (starEach [e] X.env)).all (fun x => !x.1) && (backToKw pc (keywordEach [] X.env)).all (fun x => x.1.isSome) && decide ([e].length + ([] : List Keyword).length + (if ([] : List Keyword).isEmpty then 0 else 1) < 30)) = true := by rfl)
    (hline : (pa.endLine == pc.line) = true := by rfl) (hs : starEach [e] X.env = (false, eval e X.env) :: starEach [] X.env := by rfl) (hplain : (backTo pc (starEach [] X.env)).any (·.1) = false := by rfl)
    (hsw : swapsWith (.Call (.Attribute (.Name n px) "append" pa) [e] [] pc) none pos.line X.env = pure false := by rfl)
    (hd : (n == ("__debug__" : Str)) = false := by decide) (hcd : (n == ("__classdict__" : Str)) = false := by decide) : GM X (.Expr (.Call (.Attribute (.Name n px) "append" pa) [e] [] pc) pos :: rest) Z D ((appR xs x).bd f) := fun o' q => by
  obtain ⟨ys, q1, q2⟩ := Rs.bd_inv q
  obtain ⟨hl, q1⟩ := Rs.gd_inv q1
  cases q1
  exact goes_append i j (ea_cons he ea_nil hs) hz hj (by rw [sizeLine_eq]; exact hl) (h _ o' q2) hN hv hbase hfew hline hs hplain hsw hd hcd
theorem gm_putD (j : Nat) {l : Addr} {kvs : List (Text × α)} {t : Text} {y : α} {f : List (Text × α) → Rs O} {d : Expr} {pos' : Pos} (hr : Room k X.A) (hv : EvE X e Z r y) (hd : EvE X d Z rRef l) (ha : EvE X a Z rC t) (hj : Z.ce[j]? = some (.dic l r kvs))
    (h : ∀ us, GM X rest (Z.setC (Z.ce.set j (.dic l r us))) D (f us)) (hs : swapsWith e (some (.Subscript d a pos')) pos.line X.env = pure false := by rfl) : GM X (.Assign [.Subscript d a pos'] e pos :: rest) Z D ((putR kvs t y).bd f) := fun o' q => by
  obtain ⟨ys, q1, q2⟩ := Rs.bd_inv q
  obtain ⟨hl, q1⟩ := Rs.gd_inv q1
  cases q1
  exact goes_putD j hr hv hd ha hj (by rw [sizeLine_eq]; exact hl) (h _ o' q2) hs
/-! ### loops -/
abbrev NU (W : PL.Ctx) (B : Hp) : L2.St → Hp → Prop := fun σ H => ∃ G, Env (W.up B) G H σ
abbrev DF (Zs : S → PL.Ctx) (B : Hp) : S → Ends := fun s => { nx := NU (Zs s) B, rt := fun _ _ => False, ct := NU (Zs s) B }
theorem gm_next {Zs : S → PL.Ctx} {B : Hp} (s : S) (hb : Z.b = ((Zs s).up B).b) (hs : SubS Z.sl (Zs s).sl) (hc : Z.ce = (Zs s).ce) : GM X [] Z (DF Zs B) (.ok s) := fun o q => by
  cases q
  exact goes_nil fun G H σ E => ⟨G, E.weak hb hs hc⟩
theorem goes_mono {D D' : Ends} (h : Goes X body Z D) (h1 : ∀ σ H, D.nx σ H → D'.nx σ H) (h2 : ∀ v H, D.rt v H → D'.rt v H) (h3 : ∀ σ H, D.bk σ H → D'.bk σ H) (h4 : ∀ σ H, D.ct σ H → D'.ct σ H) : Goes X body Z D' := fun G H σ E => ⟨fun pins s I => by
  refine thn ((h G H σ E).run pins s I) fun fl s1 hq => ?_
  cases fl with
  | next => obtain ⟨σ', H', I', hq⟩ := hq; exact ⟨σ', H', I', h1 _ _ hq⟩
  | brk => obtain ⟨σ', H', I', hq⟩ := hq; exact ⟨σ', H', I', h3 _ _ hq⟩
  | cont => obtain ⟨σ', H', I', hq⟩ := hq; exact ⟨σ', H', I', h4 _ _ hq⟩
  | ret u => obtain ⟨v, σ', H', I', rv, hq⟩ := hq; exact ⟨v, σ', H', I', rv, h2 _ _ hq⟩⟩
theorem foldR_drop {f : S → α → Rs S} {xs : List α} {i : Nat} {x : α} {s t : S} (hx : xs[i]? = some x) (h : foldR f s (xs.drop i) = .ok t) : ∃ s', f s x = .ok s' ∧ foldR f s' (xs.drop (i + 1)) = .ok t := by
  have hi := (List.getElem?_eq_some_iff.mp hx).1
  rw [List.drop_eq_getElem_cons hi, (List.getElem?_eq_some_iff.mp hx).2] at h
  exact Rs.bd_inv h
theorem gm_for {xs : List α} {f : S → α → Rs S} {g : S → Rs O} (Zs : S → PL.Ctx) (s0 : S) (hc : X.calm = true) (hp : PassesOwn (model X.prog X.w) X.A X.env X.xe) (src : EvI X tg e Z r xs) (hb0 : Z.b = (Zs s0).b) (hs0 : SubS Z.sl (Zs s0).sl) (hc0 : Z.ce = (Zs s0).ce)
    (turn : ∀ (B : Hp) (x : α) (s : S), ∃ Z', EvG X tg r x ((Zs s).up B) Z' ∧ GM X body Z' (DF Zs B) (f s x)) (after : ∀ s, GM X rest (Zs s) D (g s))
    (hs : ∀ x, foldedSetIterable e X.env x = pure x := by intro _; rfl) : GM X (.For tg e body [] pos :: rest) Z D ((foldR f s0 xs).bd g) := fun o q => by
  obtain ⟨t, q1, q2⟩ := Rs.bd_inv q
  refine goes_for Zs (fun i s => foldR f s (xs.drop i) = .ok t) s0 hc hp src q1 hb0 hs0 hc0 (fun B i x s hx hI => ?_) (fun s hI => ?_) hs
  · obtain ⟨s', h1, h2⟩ := foldR_drop hx hI
    obtain ⟨Z', g1, g2⟩ := turn B x s
    exact ⟨Z', g1, goes_mono (g2 s' h1) (fun σ H ⟨G, E⟩ => ⟨s', G, h2, E⟩) (fun _ _ z => z.elim) (fun _ _ z => z.elim) fun σ H ⟨G, E⟩ => ⟨s', G, h2, E⟩⟩
  · rw [List.drop_length] at hI
    cases hI
    exact after _ o q2
def DX (Zs : S → PL.Ctx) (B : Hp) (D : O → Ends) (er : ζ → O) : Stp S ζ → Ends
  | .nxt s => { nx := NU (Zs s) B, rt := fun _ _ => False, ct := NU (Zs s) B }
  | .brk s => { nx := fun _ _ => False, rt := fun _ _ => False, bk := NU (Zs s) B }
  | .ret z => { nx := fun _ _ => False, rt := (D (er z)).rt }
theorem gm_nextX {Zs : S → PL.Ctx} {B : Hp} {D : O → Ends} {er : ζ → O} (s : S) (hb : Z.b = ((Zs s).up B).b) (hs : SubS Z.sl (Zs s).sl) (hc : Z.ce = (Zs s).ce) : GM X [] Z (DX Zs B D er) (.ok (.nxt s)) := fun o q => by
  cases q
  exact goes_nil fun G H σ E => ⟨G, E.weak hb hs hc⟩
theorem forX_drop {f : S → α → Rs (Stp S ζ)} {xs : List α} {i : Nat} {x : α} {s : S} {t : Stp S ζ} (hx : xs[i]? = some x) (h : forX f s (xs.drop i) = .ok t) : ∃ o, f s x = .ok o ∧ ((∃ s', o = .nxt s' ∧ forX f s' (xs.drop (i + 1)) = .ok t) ∨ (∃ s', o = .brk s' ∧ t = .brk s') ∨ ∃ z, o = .ret z ∧ t = .ret z) := by
  have hi := (List.getElem?_eq_some_iff.mp hx).1
  rw [List.drop_eq_getElem_cons hi, (List.getElem?_eq_some_iff.mp hx).2] at h
  obtain ⟨o, h1, h2⟩ := Rs.bd_inv h
  refine ⟨o, h1, ?_⟩
  cases o with
  | nxt s' => exact .inl ⟨s', rfl, h2⟩
  | brk s' => cases h2; exact .inr (.inl ⟨s', rfl, rfl⟩)
  | ret z => cases h2; exact .inr (.inr ⟨z, rfl, rfl⟩)
theorem gm_forX {xs : List α} {f : S → α → Rs (Stp S ζ)} {g : S → Rs O} (er : ζ → O) (Zs : S → PL.Ctx) (s0 : S) (hc : X.calm = true) (hp : PassesOwn (model X.prog X.w) X.A X.env X.xe) (src : EvI X tg e Z r xs) (hb0 : Z.b = (Zs s0).b) (hs0 : SubS Z.sl (Zs s0).sl) (hc0 : Z.ce = (Zs s0).ce)
    (turn : ∀ (B : Hp) (x : α) (s : S), ∃ Z', EvG X tg r x ((Zs s).up B) Z' ∧ GM X body Z' (DX Zs B D er) (f s x)) (after : ∀ s, GM X rest (Zs s) D (g s))
    (hs : ∀ x, foldedSetIterable e X.env x = pure x := by intro _; rfl) : GM X (.For tg e body [] pos :: rest) Z D ((forX f s0 xs).bd (Stp.fin g er)) := fun o q => by
  obtain ⟨t, q1, q2⟩ := Rs.bd_inv q
  refine goes_for Zs (fun i s => forX f s (xs.drop i) = .ok t) s0 hc hp src q1 hb0 hs0 hc0 (fun B i x s hx hI => ?_) (fun s hI => ?_) hs
  · obtain ⟨o1, h1, h2⟩ := forX_drop hx hI
    obtain ⟨Z', g1, g2⟩ := turn B x s
    refine ⟨Z', g1, ?_⟩
    rcases h2 with ⟨s', rfl, h2⟩ | ⟨s', rfl, rfl⟩ | ⟨z, rfl, rfl⟩
    · exact goes_mono (g2 _ h1) (fun σ H ⟨G, E⟩ => ⟨s', G, h2, E⟩) (fun _ _ z => z.elim) (fun _ _ z => z.elim) fun σ H ⟨G, E⟩ => ⟨s', G, h2, E⟩
    · exact goes_mono (g2 _ h1) (fun _ _ z => z.elim) (fun _ _ z => z.elim) (fun σ H ⟨G, E⟩ => after s' o q2 G H σ E.dn) fun _ _ z => z.elim
    · cases q2
      exact goes_mono (g2 _ h1) (fun _ _ z => z.elim) (fun _ _ z => z) (fun _ _ z => z.elim) fun _ _ z => z.elim
  · rw [List.drop_length] at hI
    cases hI
    exact after s o q2
end
end PL

/-! Rules whose parts may stop. -/
namespace PL
open PySem PySem.Spec PyProof.Rows L2
def M1 {ζ : Type} {α1 : Type} (r1 : Rel α1) (rz : Rel ζ) (f : α1 → Rs ζ) : List Slot → (Hp → V → Prop) → Prop := fun ss R => ∃ x1 z, ss = [.val r1 x1] ∧ f x1 = .ok z ∧ R = fun G v => rz.rd G v z
def N1 {ζ : Type} {α1 : Type} (r1 : Rel α1) (f : α1 → Rs (List ζ)) : List Slot → List ζ → Prop := fun ss z => ∃ x1, ss = [.val r1 x1] ∧ f x1 = .ok z
def I1 {ζ : Type} {α1 : Type} (r1 : Rel α1) (fs : ζ → List (Str × Slot)) (f : α1 → Rs ζ) : List Slot → List (Str × Slot) → Prop := fun ss q => ∃ x1 z, ss = [.val r1 x1] ∧ f x1 = .ok z ∧ q = fs z
def M2 {ζ : Type} {α1 : Type} {α2 : Type} (r1 : Rel α1) (r2 : Rel α2) (rz : Rel ζ) (f : α1 → α2 → Rs ζ) : List Slot → (Hp → V → Prop) → Prop := fun ss R => ∃ x1 x2 z, ss = [.val r1 x1, .val r2 x2] ∧ f x1 x2 = .ok z ∧ R = fun G v => rz.rd G v z
def N2 {ζ : Type} {α1 : Type} {α2 : Type} (r1 : Rel α1) (r2 : Rel α2) (f : α1 → α2 → Rs (List ζ)) : List Slot → List ζ → Prop := fun ss z => ∃ x1 x2, ss = [.val r1 x1, .val r2 x2] ∧ f x1 x2 = .ok z
def I2 {ζ : Type} {α1 : Type} {α2 : Type} (r1 : Rel α1) (r2 : Rel α2) (fs : ζ → List (Str × Slot)) (f : α1 → α2 → Rs ζ) : List Slot → List (Str × Slot) → Prop := fun ss q => ∃ x1 x2 z, ss = [.val r1 x1, .val r2 x2] ∧ f x1 x2 = .ok z ∧ q = fs z
def M3 {ζ : Type} {α1 : Type} {α2 : Type} {α3 : Type} (r1 : Rel α1) (r2 : Rel α2) (r3 : Rel α3) (rz : Rel ζ) (f : α1 → α2 → α3 → Rs ζ) : List Slot → (Hp → V → Prop) → Prop := fun ss R => ∃ x1 x2 x3 z, ss = [.val r1 x1, .val r2 x2, .val r3 x3] ∧ f x1 x2 x3 = .ok z ∧ R = fun G v => rz.rd G v z
def I3 {ζ : Type} {α1 : Type} {α2 : Type} {α3 : Type} (r1 : Rel α1) (r2 : Rel α2) (r3 : Rel α3) (fs : ζ → List (Str × Slot)) (f : α1 → α2 → α3 → Rs ζ) : List Slot → List (Str × Slot) → Prop := fun ss q => ∃ x1 x2 x3 z, ss = [.val r1 x1, .val r2 x2, .val r3 x3] ∧ f x1 x2 x3 = .ok z ∧ q = fs z
def M4 {ζ : Type} {α1 : Type} {α2 : Type} {α3 : Type} {α4 : Type} (r1 : Rel α1) (r2 : Rel α2) (r3 : Rel α3) (r4 : Rel α4) (rz : Rel ζ) (f : α1 → α2 → α3 → α4 → Rs ζ) : List Slot → (Hp → V → Prop) → Prop := fun ss R => ∃ x1 x2 x3 x4 z, ss = [.val r1 x1, .val r2 x2, .val r3 x3, .val r4 x4] ∧ f x1 x2 x3 x4 = .ok z ∧ R = fun G v => rz.rd G v z
def I4 {ζ : Type} {α1 : Type} {α2 : Type} {α3 : Type} {α4 : Type} (r1 : Rel α1) (r2 : Rel α2) (r3 : Rel α3) (r4 : Rel α4) (fs : ζ → List (Str × Slot)) (f : α1 → α2 → α3 → α4 → Rs ζ) : List Slot → List (Str × Slot) → Prop := fun ss q => ∃ x1 x2 x3 x4 z, ss = [.val r1 x1, .val r2 x2, .val r3 x3, .val r4 x4] ∧ f x1 x2 x3 x4 = .ok z ∧ q = fs z
def I5 {ζ : Type} {α1 : Type} {α2 : Type} {α3 : Type} {α4 : Type} {α5 : Type} (r1 : Rel α1) (r2 : Rel α2) (r3 : Rel α3) (r4 : Rel α4) (r5 : Rel α5) (fs : ζ → List (Str × Slot)) (f : α1 → α2 → α3 → α4 → α5 → Rs ζ) : List Slot → List (Str × Slot) → Prop := fun ss q => ∃ x1 x2 x3 x4 x5 z, ss = [.val r1 x1, .val r2 x2, .val r3 x3, .val r4 x4, .val r5 x5] ∧ f x1 x2 x3 x4 x5 = .ok z ∧ q = fs z
section
variable {X : Cx} {Z : PL.Ctx} {α β γ S ζ O : Type} {r : Rel α} {s : Rel β} {x : α} {pos p p2 : Pos} {a b c e tg elt d : Expr} {es : List Expr} {D : O → Ends} {body rest : List Stmt} {n : Str} {k : Nat} {i j : Int} {xs ys : List α} {t u : Text}
/-! ### operators -/
theorem em_mul (ha : EvE X a Z rI i) (hb : EvE X b Z rI j) : EvM X (.BinOp a .Mult b pos) Z rI (mulR i j) := em_gd fun h => em_ok (ev_mulG ha hb h)
theorem em_mod (ha : EvE X a Z rI i) (hb : EvE X b Z rI j) : EvM X (.BinOp a .Mod b pos) Z rI (modR i j) := em_gd fun h => em_ok (ev_mod ha hb h)
theorem em_div (ha : EvE X a Z rI i) (hb : EvE X b Z rI j) : EvM X (.BinOp a .FloorDiv b pos) Z rI (divR i j) := em_gd fun h => em_ok (ev_fdivZ ha hb h)
theorem efm_cat (ha : EvE X a Z (rL X.K r) xs) (hb : EvE X b Z (rL X.K r) ys) : EvFM X (.BinOp a .Add b pos) Z r (catR xs ys) := efm_gd fun h => efm_ok (ef_cat ha hb (by rw [sizeLine_eq]; exact h))
theorem em_ixL (ha : EvE X a Z (rL X.K r) xs) (hb : EvE X b Z rI i) (hs : PlainIx b := by exact fun _ _ => rfl) : EvM X (.Subscript a b pos) Z r (ixR xs i) := fun y q => by
  have q := ixR_inv q
  exact ev2 (pe_ix ix_list ce ce hs) ha hb fun G H v w Q s h1 h2 k => by
    obtain ⟨l, us, rfl, h3, h4, _⟩ := h1
    unfold atI at q
    cases e : ixN xs.length i with
    | none => rw [e] at q; cases q
    | some j =>
      rw [e] at q
      obtain ⟨u, h5, h6⟩ := pget' h4 q
      exact ⟨l, us, i, u, rfl, h2, s.seq h3, by unfold atI; rw [plen h4, e]; exact h5, k G H _ (.refl s) h6⟩
/-! comparisons that may stop -/
def CmpM (X : Cx) (op : CmpOp) (a b : Expr) (Z : PL.Ctx) (m : Rs Bool) : Prop := ∀ k, m = .ok k → CmpE X op a b Z k
theorem em_c {op : CmpOp} {m : Rs Bool} (h : CmpM X op a b Z m) : EvM X (.Compare a [op] [b] pos) Z rB m := fun y q => ev_c (h y q)
theorem cmm_in (ha : EvE X a Z rC t) (hb : EvE X b Z rC u) (hm : behindInMarks .In b = false := by rfl) : CmpM X .In a b Z (sinR t u) := fun y q => by
  obtain ⟨h1, h2⟩ := Rs.gd_inv q
  cases h2
  exact cm_inC ha hb h1 hm
/-! ### what is walked -/
theorem eim_range (hm : X.mg "range" = none) (ha : EvA X [a] Z [.val rI i]) (hg : Gl X "range" := by rfl) (hs : starEach [a] X.env = [(false, eval a X.env)] := by rfl) : EvIM X tg (.Call (.Name "range" p) [a] [] pos) Z rI (rngR i) := eim_gd fun h => eim_ok (ei_range hm ha h.1 h.2 hg hs)
/-! ### comprehensions -/
theorem lcR_acc {k : α → Rs Bool} {f : α → Rs β} : ∀ {xs : List α} {zs : List β}, lcR k f xs = .ok zs → ∃ acc : Nat → List β, acc 0 = [] ∧ (∀ i, (acc i).length ≤ i) ∧ acc xs.length = zs ∧ ∀ i x, xs[i]? = some x → ∃ b, k x = .ok b ∧ (b = true → ∃ y, f x = .ok y ∧ acc (i + 1) = acc i ++ [y]) ∧ (b = false → acc (i + 1) = acc i)
  | [], zs, h => by
    cases h
    exact ⟨fun _ => [], rfl, fun _ => Nat.zero_le _, rfl, fun i x hx => by simp at hx⟩
  | x :: xs, zs, h => by
    unfold lcR at h
    obtain ⟨b, h1, h2⟩ := Rs.bd_inv h
    cases b with
    | true =>
      rw [if_pos rfl] at h2
      obtain ⟨y, h3, h4⟩ := Rs.bd_inv h2
      obtain ⟨ys, h5, h6⟩ := Rs.bd_inv h4
      cases h6
      obtain ⟨acc, a0, a1, a2, a3⟩ := lcR_acc h5
      refine ⟨fun i => match i with | 0 => [] | i + 1 => y :: acc i, rfl, fun i => ?_, by show y :: acc xs.length = _; rw [a2], fun i z hz => ?_⟩
      · cases i with
        | zero => exact Nat.zero_le _
        | succ i => exact Nat.succ_le_succ (a1 i)
      · cases i with
        | zero =>
          cases hz
          exact ⟨true, h1, fun _ => ⟨y, h3, by show y :: acc 0 = _; rw [a0]; rfl⟩, fun z => by cases z⟩
        | succ i =>
          obtain ⟨b, b1, b2, b3⟩ := a3 i z (by simpa using hz)
          refine ⟨b, b1, fun hb => ?_, fun hb => by show y :: acc (i + 1) = y :: acc i; rw [b3 hb]⟩
          obtain ⟨w, w1, w2⟩ := b2 hb
          exact ⟨w, w1, by show y :: acc (i + 1) = (y :: acc i) ++ [w]; rw [w2]; rfl⟩
    | false =>
      rw [if_neg Bool.false_ne_true] at h2
      obtain ⟨acc, a0, a1, a2, a3⟩ := lcR_acc h2
      refine ⟨fun i => match i with | 0 => [] | i + 1 => acc i, rfl, fun i => ?_, a2, fun i z hz => ?_⟩
      · cases i with
        | zero => exact Nat.zero_le _
        | succ i => exact Nat.le_succ_of_le (a1 i)
      · cases i with
        | zero =>
          cases hz
          exact ⟨false, h1, (fun z => by cases z), fun _ => a0⟩
        | succ i => exact a3 i z (by simpa using hz)
theorem mapR_lcR (f : α → Rs β) : ∀ xs : List α, mapR f xs = lcR (fun _ => .ok true) f xs
  | [] => rfl
  | x :: xs => by
    show (f x).bd _ = (f x).bd _
    rw [mapR_lcR f xs]
theorem lc_core {scope : Scope} {own : List (Str × Nat)} {wi : TI} {wt : TT} {kM : α → Rs Bool} {fM : α → Rs β} {zs : List β} (hw : ∀ G H σ R, Env Z G H σ → (∀ G' H' J, Ext G H G' H' → Walks J G' r xs → xs.length ≤ sizeLine → R J H') → wi σ H R) (hz : lcR kM fM xs = .ok zs)
    (turn : ∀ (B : Hp) (x : α), ∃ Z', (∀ st H C cl fp, EvGB (blkX X scope st H C cl fp) tg r x (own.map (·.2)) ((Z.up B).wipe (own.map (·.2))) Z') ∧
      (∀ k, kM x = .ok k → ∀ G H σ Q, Env Z' G H σ → (∀ G' H', Ext G H G' H' → Q k H') → wt σ H Q) ∧ (∀ st H C cl fp, EvM (blkX X scope st H C cl fp) elt Z' s (fM x)))
    {G H : Hp} {σ : L2.St} {Q : VK} (E : Env Z G H σ) (q : ∀ G' H' o vs, Ext G H G' H' → H o = none → G' o = none → H' o = some (.lst vs) → Paired (s.rd G') vs zs → zs.length ≤ sizeLine → Q (.ref o) H') : tLc wi (gB X scope tg) wt (eB X scope elt) (own.map (·.2)) σ H Q := by
  obtain ⟨acc, a0, a1, a2, a3⟩ := lcR_acc hz
  refine lc_ev (s := s) hw acc a0 a1 (fun B i x hx => ?_) E fun G' H' o vs e1 h1 h2 h3 h4 h5 => q G' H' o vs e1 h1 h2 h3 (a2 ▸ h4) (a2 ▸ h5)
  obtain ⟨b, b1, b2, b3⟩ := a3 i x hx
  obtain ⟨Z', t1, t2, t3⟩ := turn B x
  refine ⟨Z', b, t1, t2 b b1, fun hb => ?_, b3⟩
  obtain ⟨y, y1, y2⟩ := b2 hb
  exact ⟨y, fun st H C cl fp => t3 st H C cl fp y y1, y2⟩
abbrev Turn1 (X : Cx) (Z : PL.Ctx) (scope : Scope) (own : List (Str × Nat)) (tg elt : Expr) {α β : Type} (r : Rel α) (s : Rel β) (fM : α → Rs β) : Prop := ∀ (B : Hp) (x : α), ∃ Z', (∀ st H C cl fp, EvGB (blkX X scope st H C cl fp) tg r x (own.map (·.2)) ((Z.up B).wipe (own.map (·.2))) Z') ∧ (∀ st H C cl fp, EvM (blkX X scope st H C cl fp) elt Z' s (fM x))
abbrev Turn2 (X : Cx) (Z : PL.Ctx) (scope : Scope) (own : List (Str × Nat)) (tg elt c : Expr) {α β : Type} (r : Rel α) (s : Rel β) (kM : α → Rs Bool) (fM : α → Rs β) : Prop := ∀ (B : Hp) (x : α), ∃ Z', (∀ st H C cl fp, EvGB (blkX X scope st H C cl fp) tg r x (own.map (·.2)) ((Z.up B).wipe (own.map (·.2))) Z') ∧ (∀ st H C cl fp, EvTM (blkX X scope st H C cl fp) c Z' (kM x)) ∧ (∀ st H C cl fp, EvM (blkX X scope st H C cl fp) elt Z' s (fM x))
theorem pgB {scope : Scope} (st : Shared) (H : Hp) (C : Addr) (cl : List (Str × Addr)) (fp : List Addr) : PG (X.blk st H scope (compEnvC scope cl C X.env) fp) tg (gB X scope tg) := ⟨fun pins s _ _ _ u _ I r h => (h st H C cl fp).run pins s u I r⟩
theorem peB {scope : Scope} (st : Shared) (H : Hp) (C : Addr) (cl : List (Str × Addr)) (fp : List Addr) : PE (X.blk st H scope (compEnvC scope cl C X.env) fp) elt (eB X scope elt) := ⟨fun pins s _ _ _ I h => (h st H C cl fp).run pins s I⟩
theorem ptB {scope : Scope} (st : Shared) (H : Hp) (C : Addr) (cl : List (Str × Addr)) (fp : List Addr) : PTs (X.blk st H scope (compEnvC scope cl C X.env) fp) [c] (tB X scope c) := pts_one ⟨fun pins s _ _ _ I h => (h st H C cl fp).run pins s I⟩
def LcRd (X : Cx) (Z : PL.Ctx) (scope : Scope) (own : List (Str × Nat)) (tg e elt : Expr) (ifs : List Expr) {β : Type} (s : Rel β) (m : Rs (List β)) : Prop := ∀ zs, m = .ok zs → ∃ wi wt, PI X tg e wi ∧ (∀ st H C cl fp, PTs (X.blk st H scope (compEnvC scope cl C X.env) fp) ifs wt) ∧
  ∀ G H σ (Q : VK), Env Z G H σ → (∀ G' H' o vs, Ext G H G' H' → H o = none → G' o = none → H' o = some (.lst vs) → Paired (s.rd G') vs zs → zs.length ≤ sizeLine → Q (.ref o) H') → tLc wi (gB X scope tg) wt (eB X scope elt) (own.map (·.2)) σ H Q
theorem lcr_1 {scope : Scope} {own : List (Str × Nat)} {fM : α → Rs β} (src : EvI X tg e Z r xs) (turn : Turn1 X Z scope own tg elt r s fM) : LcRd X Z scope own tg e elt [] s (mapR fM xs) := fun zs hz => by
  obtain ⟨wi, pi, hw⟩ := src
  rw [mapR_lcR] at hz
  exact ⟨wi, _, pi, fun _ _ _ _ _ => pts_nil, fun G H σ Q E q => lc_core hw hz (fun B x => let ⟨Z', t1, t2⟩ := turn B x; ⟨Z', t1, fun k hk G H σ Q E q => by cases hk; exact q G H (.refl E.le), t2⟩) E q⟩
theorem lcr_2 {scope : Scope} {own : List (Str × Nat)} {kM : α → Rs Bool} {fM : α → Rs β} (src : EvI X tg e Z r xs) (turn : Turn2 X Z scope own tg elt c r s kM fM) : LcRd X Z scope own tg e elt [c] s (lcR kM fM xs) := fun zs hz => by
  obtain ⟨wi, pi, hw⟩ := src
  exact ⟨wi, _, pi, ptB, fun G H σ Q E q => lc_core hw hz (fun B x => let ⟨Z', t1, t2, t3⟩ := turn B x; ⟨Z', t1, fun k hk G H σ Q E q st H0 C cl fp => t2 st H0 C cl fp k hk G H σ Q E q, t3⟩) E q⟩
section
variable {scope : Scope} {own : List (Str × Nat)} {ifs : List Expr} {a' tg' : Expr}
end
theorem efm_lc {scope : Scope} (own : List (Str × Nat)) {ifs : List Expr} {m : Rs (List β)} (hc : X.calm = true) (nd : X.N.Nodup) (h : LcRd X Z scope own tg e elt ifs s m)
    (ok : blkC X.N X.env.scope scope own = true := by kernel_rfl) (hs : ∀ x, foldedSetIterable e X.env x = pure x := by intro _; rfl) : EvFM X (.ListComp elt [⟨tg, e, ifs, 0⟩] scope pos) Z s m := fun zs hz => by
  obtain ⟨wi, wt, h1, h2, h3⟩ := h zs hz
  exact fun G H σ Q E q => toE (pe_lc (own := own) hc nd h1 (blkOk_by ok) pgB h2 peB hs) (h3 G H σ Q E q)
/-! ### lent lists -/
theorem em_lent (i j : Nat) {o : Addr} {m : Rs β} (hf : NoL s) (hz : Z.sl[i]? = some (.val rRef o)) (hj : Z.ce[j]? = some (.lst o r xs)) (h : EvM X e ⟨Z.b, Z.sl.set i (.val (rL X.K r) xs), Z.ce.eraseIdx j⟩ s m) : EvM X e Z s m := fun y q => ev_lent i j hf hz hj (h y q)
theorem etm_lent (i j : Nat) {o : Addr} {m : Rs Bool} (hz : Z.sl[i]? = some (.val rRef o)) (hj : Z.ce[j]? = some (.lst o r xs)) (h : EvTM X e ⟨Z.b, Z.sl.set i (.val (rL X.K r) xs), Z.ce.eraseIdx j⟩ m) : EvTM X e Z m := fun y q => et_bor i j hz hj (h y q)
/-! ### calls -/
theorem em_c1 {α1 : Type} {r1 : Rel α1} {x1 : α1} {rz : Rel ζ} {f : α1 → Rs ζ} (C : CallOk X.prog X.w X.K X.mg X.base n k (spG (M1 r1 rz f))) (hr : Room k X.A) (ha : EvA X (e :: es) Z [.val r1 x1]) (hg : Gl X n := by rfl) (hdb : (n == ("__debug__" : Str)) = false := by decide) (he : starEach (e :: es) X.env = (false, eval e X.env) :: starEach es X.env := by rfl) (hpl : (backTo pos (starEach es X.env)).any (·.1) = false := by rfl) : EvM X (.Call (.Name n p) (e :: es) [] pos) Z rz (f x1) := fun z q => ev_call C hr ha ⟨x1, z, rfl, q, rfl⟩ (fun _ _ h => h) hg hdb he hpl
theorem em_c2 {α1 : Type} {r1 : Rel α1} {x1 : α1} {α2 : Type} {r2 : Rel α2} {x2 : α2} {rz : Rel ζ} {f : α1 → α2 → Rs ζ} (C : CallOk X.prog X.w X.K X.mg X.base n k (spG (M2 r1 r2 rz f))) (hr : Room k X.A) (ha : EvA X (e :: es) Z [.val r1 x1, .val r2 x2]) (hg : Gl X n := by rfl) (hdb : (n == ("__debug__" : Str)) = false := by decide) (he : starEach (e :: es) X.env = (false, eval e X.env) :: starEach es X.env := by rfl) (hpl : (backTo pos (starEach es X.env)).any (·.1) = false := by rfl) : EvM X (.Call (.Name n p) (e :: es) [] pos) Z rz (f x1 x2) := fun z q => ev_call C hr ha ⟨x1, x2, z, rfl, q, rfl⟩ (fun _ _ h => h) hg hdb he hpl
theorem efm_c2 {α1 : Type} {r1 : Rel α1} {x1 : α1} {α2 : Type} {r2 : Rel α2} {x2 : α2} {rz : Rel ζ} {f : α1 → α2 → Rs (List ζ)} (C : CallOk X.prog X.w X.K X.mg X.base n k (spF rz (N2 r1 r2 f))) (hr : Room k X.A) (ha : EvA X (e :: es) Z [.val r1 x1, .val r2 x2]) (hg : Gl X n := by rfl) (hdb : (n == ("__debug__" : Str)) = false := by decide) (he : starEach (e :: es) X.env = (false, eval e X.env) :: starEach es X.env := by rfl) (hpl : (backTo pos (starEach es X.env)).any (·.1) = false := by rfl) : EvFM X (.Call (.Name n p) (e :: es) [] pos) Z rz (f x1 x2) := fun z q => ef_call C hr ha ⟨x1, x2, rfl, q⟩ hg hdb he hpl
theorem em_k2 {α1 : Type} {r1 : Rel α1} {x1 : α1} {α2 : Type} {r2 : Rel α2} {x2 : α2} {C : Addr} {fs : ζ → List (Str × Slot)} {f : α1 → α2 → Rs ζ} (M : MakeOk X.prog X.w X.K X.mg X.base n C k (spI C (I2 r1 r2 fs f))) (hr : Room (k + 1) X.A) (ha : EvA X (e :: es) Z [.val r1 x1, .val r2 x2]) (hg : Gl X n := by rfl) (hdb : (n == ("__debug__" : Str)) = false := by decide) (he : starEach (e :: es) X.env = (false, eval e X.env) :: starEach es X.env := by rfl) (hpl : (backTo pos (starEach es X.env)).any (·.1) = false := by rfl) : EvM X (.Call (.Name n p) (e :: es) [] pos) Z (rObj C fs) (f x1 x2) := fun z q => ev_make M hr ha ⟨x1, x2, z, rfl, q, rfl⟩ hg hdb he hpl
theorem em_c3 {α1 : Type} {r1 : Rel α1} {x1 : α1} {α2 : Type} {r2 : Rel α2} {x2 : α2} {α3 : Type} {r3 : Rel α3} {x3 : α3} {rz : Rel ζ} {f : α1 → α2 → α3 → Rs ζ} (C : CallOk X.prog X.w X.K X.mg X.base n k (spG (M3 r1 r2 r3 rz f))) (hr : Room k X.A) (ha : EvA X (e :: es) Z [.val r1 x1, .val r2 x2, .val r3 x3]) (hg : Gl X n := by rfl) (hdb : (n == ("__debug__" : Str)) = false := by decide) (he : starEach (e :: es) X.env = (false, eval e X.env) :: starEach es X.env := by rfl) (hpl : (backTo pos (starEach es X.env)).any (·.1) = false := by rfl) : EvM X (.Call (.Name n p) (e :: es) [] pos) Z rz (f x1 x2 x3) := fun z q => ev_call C hr ha ⟨x1, x2, x3, z, rfl, q, rfl⟩ (fun _ _ h => h) hg hdb he hpl
theorem em_k3 {α1 : Type} {r1 : Rel α1} {x1 : α1} {α2 : Type} {r2 : Rel α2} {x2 : α2} {α3 : Type} {r3 : Rel α3} {x3 : α3} {C : Addr} {fs : ζ → List (Str × Slot)} {f : α1 → α2 → α3 → Rs ζ} (M : MakeOk X.prog X.w X.K X.mg X.base n C k (spI C (I3 r1 r2 r3 fs f))) (hr : Room (k + 1) X.A) (ha : EvA X (e :: es) Z [.val r1 x1, .val r2 x2, .val r3 x3]) (hg : Gl X n := by rfl) (hdb : (n == ("__debug__" : Str)) = false := by decide) (he : starEach (e :: es) X.env = (false, eval e X.env) :: starEach es X.env := by rfl) (hpl : (backTo pos (starEach es X.env)).any (·.1) = false := by rfl) : EvM X (.Call (.Name n p) (e :: es) [] pos) Z (rObj C fs) (f x1 x2 x3) := fun z q => ev_make M hr ha ⟨x1, x2, x3, z, rfl, q, rfl⟩ hg hdb he hpl
theorem em_c4 {α1 : Type} {r1 : Rel α1} {x1 : α1} {α2 : Type} {r2 : Rel α2} {x2 : α2} {α3 : Type} {r3 : Rel α3} {x3 : α3} {α4 : Type} {r4 : Rel α4} {x4 : α4} {rz : Rel ζ} {f : α1 → α2 → α3 → α4 → Rs ζ} (C : CallOk X.prog X.w X.K X.mg X.base n k (spG (M4 r1 r2 r3 r4 rz f))) (hr : Room k X.A) (ha : EvA X (e :: es) Z [.val r1 x1, .val r2 x2, .val r3 x3, .val r4 x4]) (hg : Gl X n := by rfl) (hdb : (n == ("__debug__" : Str)) = false := by decide) (he : starEach (e :: es) X.env = (false, eval e X.env) :: starEach es X.env := by rfl) (hpl : (backTo pos (starEach es X.env)).any (·.1) = false := by rfl) : EvM X (.Call (.Name n p) (e :: es) [] pos) Z rz (f x1 x2 x3 x4) := fun z q => ev_call C hr ha ⟨x1, x2, x3, x4, z, rfl, q, rfl⟩ (fun _ _ h => h) hg hdb he hpl
theorem ef_meth0 {m : Str} {apos : Pos} {C : Addr} {Pr : List Slot → List β → Prop} {fs : α → List (Str × Slot)} {ys : List β} {pl : Sem Bool} (M : MethOk X.prog X.w X.K X.mg X.base C m k (spF s Pr)) (hr : Room k X.A) (ho : EvE X a Z (rObj C fs) x) (hf : (fs x).lookup m = none) (hP : Pr [.val (rObj C fs) x] ys)
    (ht : eval (.Call (.Attribute a m apos) [] [] pos) X.env = (do
      let ov ← eval a X.env
      standAt apos.atName
      let (f, first) ← holding [ov] (getMethod ov m pl)
      callWith pos f first (backTo pos (starEach [] X.env)) (backToKw pos (keywordEach [] X.env))) := by rfl) : EvF X (.Call (.Attribute a m apos) [] [] pos) Z s ys := fun G H σ Q E q => by
  obtain ⟨f, fd, ps, F, hm, hb, hc⟩ := M
  refine toE (pe_meth0 (E := fun _ _ _ => False) ce hc hm F hr hb .nil pass0 ht) (ho G H σ _ E fun G1 H1 v e1 h1 => ?_)
  obtain ⟨l, dx, vfs, rfl, g1, g2, g3⟩ := id h1
  refine ⟨l, dx, vfs, rfl, e1.s.ins g1, flds_none g3 hf, ?_⟩
  exact ⟨_, G1, ys, hP, e1.s, .cons h1 .nil, fun G3 H3 o us e3 h3 h4 h5 h6 h7 => q G3 H3 o us (e1.trans e3) (e1.h.free h3) h4 h5 h6 h7⟩
theorem efm_m1 {m : Str} {apos : Pos} {C : Addr} {fs : α → List (Str × Slot)} {pl : Sem Bool} {rz : Rel ζ} {f : α → Rs (List ζ)} (M : MethOk X.prog X.w X.K X.mg X.base C m k (spF rz (N1 (rObj C fs) f))) (hr : Room k X.A) (ho : EvE X a Z (rObj C fs) x) (hf : (fs x).lookup m = none := by rfl) (ht : eval (.Call (.Attribute a m apos) [] [] pos) X.env = (do
      let ov ← eval a X.env
      standAt apos.atName
      let (f, first) ← holding [ov] (getMethod ov m pl)
      callWith pos f first (backTo pos (starEach [] X.env)) (backToKw pos (keywordEach [] X.env))) := by rfl) : EvFM X (.Call (.Attribute a m apos) [] [] pos) Z rz (f x) := fun z q => ef_meth0 M hr ho hf ⟨x, rfl, q⟩ ht
end
end PL

/-! More rules that the printed walks name. -/
namespace PL
open PySem PySem.Spec PyProof.Rows L2
theorem szl (n : Nat) (h : n ≤ 1000 := by decide) : n ≤ sizeLine := by rw [sizeLine_eq]; omega
section
variable {X : Cx} {Z : PL.Ctx} {α β γ δ ε S ζ O : Type} {r : Rel α} {s : Rel β} {r3 : Rel γ} {r4 : Rel δ} {x : α} {pos p p2 : Pos} {a b c e f tg elt d : Expr} {es : List Expr} {D : O → Ends} {body rest : List Stmt} {n : Str} {k : Nat} {i j : Int} {xs ys : List α} {t u : Text}
theorem ev_powK (m : Int) (q : Nat) {e1 e2 : Int} {j1 j2 : Nat} {p1 p2 : Pos} (h : decide (q ≤ 1000000 ∧ m.natAbs < 2 ^ 64) = true := by decide) (h1 : e1 = m := by rfl) (h2 : e2 = (q : Int) := by rfl) : EvE X (.BinOp (.Constant (.int e1) j1 p1) .Pow (.Constant (.int e2) j2 p2) pos) Z PL.rI (m ^ q) := by
  have h := of_decide_eq_true h
  subst h1 h2
  exact ev_cast (ev_pow ev_int ev_int ⟨by omega, by omega, by omega⟩) (by rw [Int.toNat_natCast])
theorem eo_some (h : EvE X e Z PL.rI i) : EvO X (some e) Z (some i) := h
def txts : List Expr → Option (List Text)
  | [] => some []
  | .Constant (.str i) _ _ :: es => (txts es).map (tx i :: ·)
  | _ :: _ => none
def intsC : List Expr → Option (List Int)
  | [] => some []
  | .Constant (.int i) _ _ :: es => (intsC es).map (i :: ·)
  | _ :: _ => none
theorem ea_txts : ∀ {es : List Expr} {xs : List Text}, txts es = some xs → xs.all okTb = true → EvA X es Z (xs.map (.val rC))
  | [], _, h, _ => by cases h; exact ea_nil
  | .Constant (.str i) _ _ :: es, _, h, ho => by
    unfold txts at h
    cases e : txts es with
    | none => rw [e] at h; cases h
    | some ys =>
      rw [e] at h
      cases h
      rw [List.all_cons, Bool.and_eq_true] at ho
      exact ea_cons (ev_txt ho.1) (ea_txts e ho.2)
theorem ea_intsC : ∀ {es : List Expr} {xs : List Int}, intsC es = some xs → EvA X es Z (xs.map (.val PL.rI))
  | [], _, h => by cases h; exact ea_nil
  | .Constant (.int i) _ _ :: es, _, h => by
    unfold intsC at h
    cases e : intsC es with
    | none => rw [e] at h; cases h
    | some ys =>
      rw [e] at h
      cases h
      exact ea_cons ev_int (ea_intsC e)
theorem ef_txts {xs : List Text} (h : txts es = some xs := by rfl) (ho : xs.all okTb = true := by decide +kernel) (hl : decide (xs.length ≤ 1000) = true := by rfl) : EvF X (.List es pos) Z rC xs := ef_lst (ea_txts h ho) (by have := of_decide_eq_true hl; rw [sizeLine_eq]; omega)
theorem ef_ints {xs : List Int} (h : intsC es = some xs := by rfl) (hl : decide (xs.length ≤ 1000) = true := by rfl) : EvF X (.List es pos) Z PL.rI xs := ef_lst (ea_intsC h) (by have := of_decide_eq_true hl; rw [sizeLine_eq]; omega)
theorem Env.frzB {G H : Hp} {σ : L2.St} {j : Nat} {c : Cell} (E : Env Z G H σ) (hj : Z.ce[j]? = some c) : ∃ u, H c.addr = some u ∧ G c.addr = none ∧ Z.b.H0 c.addr = none ∧ c.is G u ∧ Env ⟨Z.b, Z.sl, Z.ce.eraseIdx j⟩ (upd G c.addr u) H σ := by
  obtain ⟨c0, cG, u, cH, cI⟩ := E.ce _ (List.mem_of_getElem? hj)
  have s1 : Same G (upd G c.addr u) := same_upd cG
  refine ⟨u, cH, cG, c0, cI, ⟨E.ex.g.trans s1, fun b u hb => ?_, E.ex.h, fun b hb hg => ?_⟩, fun B hB => (E.ab B hB).trans s1, fun k s hk => ?_, fun q hq => ?_, ?_⟩
  · by_cases hbo : b = c.addr
    · subst hbo
      rw [upd_same] at hb
      rw [← hb]
      exact .inl cH
    · rw [upd_ne hbo] at hb
      exact E.ex.s b u hb
  · have hbo : b ≠ c.addr := fun z => hb (z ▸ c0)
    rw [upd_ne hbo]
    exact E.ex.n b hb hg
  · obtain ⟨ov, q1, q2⟩ := E.sl k s hk
    exact ⟨ov, q1, Slot.ok_mono s1 q2⟩
  · have hc' := E.ce q (List.mem_of_mem_eraseIdx hq)
    have hne : q.addr ≠ c.addr := fun z => by
      have hm : c.addr ∈ (Z.ce.eraseIdx j).map Cell.addr := z ▸ List.mem_map_of_mem hq
      rw [map_erase] at hm
      have e2 : (Z.ce.map Cell.addr)[j]? = some c.addr := by rw [List.getElem?_map, hj]; rfl
      obtain ⟨m, hm⟩ := List.getElem?_of_mem hm
      rw [List.getElem?_eraseIdx] at hm
      split at hm
      · have := nd_inj E.nd e2 hm
        omega
      · have := nd_inj E.nd e2 hm
        omega
    exact Cell.ok_G hc' s1 (by rw [upd_ne hne]; exact hc'.2.1)
  · show ((Z.ce.eraseIdx j).map Cell.addr).Nodup
    rw [map_erase]
    exact E.nd.sublist (List.eraseIdx_sublist _ _)
theorem Env.frzD {G H : Hp} {σ : L2.St} {i j : Nat} {o : Addr} {kvs : List (Text × α)} (E : Env Z G H σ) (hz : Z.sl[i]? = some (.val rRef o)) (hj : Z.ce[j]? = some (.dic o r kvs)) :
    ∃ us, H o = some (.dK us) ∧ G o = none ∧ Env ⟨Z.b, Z.sl.set i (.val (rD r) kvs), Z.ce.eraseIdx j⟩ (upd G o (.dK us)) H σ := by
  obtain ⟨u, h1, h2, h3, ⟨us, rfl, h4, h5⟩, h6⟩ := E.frzB hj
  obtain ⟨v, g1, g2⟩ := E.get hz
  obtain rfl : v = .ref o := g2
  have hes : σ.set i (some (.ref o)) = σ := set_self g1
  have fin := h6.setv (i := i) (s := .val (rD r) kvs) (ov := some (.ref o)) ⟨.ref o, rfl, o, us, rfl, upd_same, pmono (fun _ _ h => ⟨h.1, r.mono (same_upd h2) h.2.1, h.2.2⟩) h4, h5⟩
  rw [hes] at fin
  exact ⟨us, h1, h2, fin⟩
theorem gm_frzD (i j : Nat) {o : Addr} {kvs : List (Text × α)} {m : Rs O} (hz : Z.sl[i]? = some (.val rRef o)) (hj : Z.ce[j]? = some (.dic o r kvs)) (h : GM X body ⟨Z.b, Z.sl.set i (.val (rD r) kvs), Z.ce.eraseIdx j⟩ D m) : GM X body Z D m := fun o' q G H σ E => by
  obtain ⟨us, h1, h2, h3⟩ := E.frzD hz hj
  exact h o' q _ H σ h3
/-! ### tuples -/
theorem ev_oN (h : EvE X e Z rN ()) : EvE X e Z (rO r) none := ev_cov h fun _ _ q => .inl ⟨q, rfl⟩
theorem ev_oS (h : EvE X e Z r x) : EvE X e Z (rO r) (some x) := ev_cov h fun _ _ q => .inr ⟨x, rfl, q⟩
/-! ### d[k] of a dict -/
theorem em_getD {kvs : List (Text × α)} (hr : Room k X.A) (hd : EvE X d Z (rD r) kvs) (ha : EvE X a Z rC t) (hs : NoSl a := by exact fun _ _ => rfl) : EvM X (.Subscript d a pos) Z r (dgetR kvs t) := fun y q G H σ Q E h => by
  unfold dgetR at q
  refine toE (pe_dget (hu_of hr) ce ce hs) (hd G H σ _ E fun G1 H1 v e1 h1 => ha G1 H1 σ _ (E.ext e1) fun G2 H2 w e2 h2 => ?_)
  obtain ⟨l, us, rfl, g1, g2, _⟩ := h1
  obtain ⟨rfl, _⟩ : w = .str (mkS t) ∧ okT t := h2
  rcases ent_get (t := t) (pmono (fun _ _ h => ⟨h.1, r.mono e2.g h.2.1, h.2.2⟩) g2) with ⟨q1, q2⟩ | ⟨v, z, q1, q2, q3⟩
  · rw [q2] at q
    cases q
  · rw [q2] at q
    cases q
    exact ⟨l, v, rfl, by rw [← q1]; exact DGr (k := Sum.inr (mkS t)) ((e2.g.trf e2.s).dk g1), h G2 H2 v (e1.trans e2) q3⟩
theorem cm_notInD {kvs : List (Text × α)} (hr : Room k X.A) (ha : EvE X a Z rC t) (hb : EvE X b Z (rD r) kvs) (hm : behindInMarks .NotIn b = false := by rfl) : CmpE X .NotIn a b Z (!(dget kvs t).isSome) := ⟨hm, _, pc_dnotin (hu_of hr) ce ce, fun G H σ Q E q =>
  ha G H σ _ E fun G1 H1 v e1 h1 => hb G1 H1 σ _ (E.ext e1) fun G2 H2 w e2 h2 => by
    obtain ⟨rfl, _⟩ : v = .str (mkS t) ∧ okT t := h1
    obtain ⟨l, us, rfl, g1, g2, _⟩ := h2
    refine ⟨l, _, rfl, DGr (k := Sum.inr (mkS t)) (e2.s.dk g1), ?_⟩
    have z : (valV us (Sum.inr (mkS t) : Key)).isSome = (dget kvs t).isSome := by
      rcases ent_get (t := t) g2 with ⟨q1, q2⟩ | ⟨v, y, q1, q2, _⟩ <;> rw [q1, q2] <;> rfl
    rw [z]
    exact q G2 H2 (e1.trans e2)⟩
/-! ### slices of tuples of unlike things -/
end
end PL

/-! Statements whose parts may stop, one at a time. -/
namespace PL
open PySem PySem.Spec PyProof.Rows L2
noncomputable def setR {α : Type} (xs : List α) (i : Int) (x : α) : Rs (List α) := match ixN xs.length i with
  | some j => .ok (xs.set j x)
  | none => .no
section
variable {X : Cx} {Z : PL.Ctx} {α β γ S ζ O : Type} {r : Rel α} {s : Rel β} {x : α} {pos p p2 : Pos} {a b c e f tg elt d : Expr} {es : List Expr} {D : O → Ends} {body rest th el : List Stmt} {n : Str} {k : Nat} {i j : Int} {xs ys : List α} {t u : Text} {m : Rs α} {g : α → Rs O}
theorem gm_setM (i : Nat) {p' : Pos} (nd : X.N.Nodup) (he : EvM X e Z r m) (h : ∀ x, GM X rest (Z.set i (.val r x)) D (g x)) (hi : X.N[i]? = some n := by rfl) (hx : Loc X.env.scope n := by first | exact Or.inl rfl | exact Or.inr rfl)
    (hs : swapsWith e (some (.Name n p')) pos.line X.env = pure false := by rfl) (hf : X.fn n = true ∨ X.env.scope.names.lookup n = some .local := by first | exact .inl rfl | exact .inr rfl | assumption) : GM X (.Assign [.Name n p'] e pos :: rest) Z D (m.bd g) := fun o q =>
  let ⟨x, h1, h2⟩ := Rs.bd_inv q; goes_set i nd (he x h1) (h x o h2) hi hx hs hf
theorem gm_setFM (i : Nat) {p' : Pos} {m : Rs (List α)} {g : List α → Rs O} (nd : X.N.Nodup) (he : EvFM X e Z r m) (h : ∀ xs o, GM X rest ⟨Z.b, Z.sl.set i (.val rRef o), .lst o r xs :: Z.ce⟩ D (g xs)) (hi : X.N[i]? = some n := by rfl) (hx : Loc X.env.scope n := by first | exact Or.inl rfl | exact Or.inr rfl)
    (hs : swapsWith e (some (.Name n p')) pos.line X.env = pure false := by rfl) (hf : X.fn n = true ∨ X.env.scope.names.lookup n = some .local := by first | exact .inl rfl | exact .inr rfl | assumption) : GM X (.Assign [.Name n p'] e pos :: rest) Z D (m.bd g) := fun o q =>
  let ⟨x, h1, h2⟩ := Rs.bd_inv q; goes_setF i nd (he x h1) (fun l => h x l o h2) hi hx hs hf
theorem gm_retM {g : α → O} (he : EvM X e Z r m) (hrt : ∀ x, (D (g x)).rt = Rt Z.b.G0 Z.b.H0 (fun G v => r.rd G v x) := by intro _; rfl) : GM X (.Return (some e) pos :: rest) Z D (m.bd fun x => .ok (g x)) := fun o q => by
  obtain ⟨x, q1, q2⟩ := Rs.bd_inv q
  exact gm_ret (he x q1) (hrt x) o q2
theorem gm_retFM {m : Rs (List α)} {g : List α → O} (he : EvFM X e Z r m) (hrt : ∀ xs, (D (g xs)).rt = RtF Z.b.G0 Z.b.H0 r xs := by intro _; rfl) : GM X (.Return (some e) pos :: rest) Z D (m.bd fun x => .ok (g x)) := fun o q => by
  obtain ⟨x, q1, q2⟩ := Rs.bd_inv q
  exact gm_retF (he x q1) (hrt x) o q2
theorem gm_ifM {mk : Rs Bool} {g1 g2 : Bool → Rs O} (hc : EvTM X c Z mk) (h1 : ∀ k, GM X th Z (DB X rest D) (g1 k)) (h2 : ∀ k, GM X el Z (DB X rest D) (g2 k)) : GM X (.If c th el pos :: rest) Z D (mk.bd fun k => if k = true then g1 k else g2 k) := fun o q => by
  obtain ⟨k, q1, q2⟩ := Rs.bd_inv q
  exact gm_if (hc k q1) (h1 k) (h2 k) o q2
theorem gm_ifJM {mk : Rs Bool} {m1 m2 : Bool → Rs S} {g : S → Rs O} (Zs : S → PL.Ctx) (hc : EvTM X c Z mk) (h1 : ∀ k, GM X th Z (DN Zs) (m1 k)) (h2 : ∀ k, GM X el Z (DN Zs) (m2 k)) (h : ∀ s, GM X rest (Zs s) D (g s)) : GM X (.If c th el pos :: rest) Z D (mk.bd fun k => (if k = true then m1 k else m2 k).bd g) := fun o q => by
  obtain ⟨k, q1, q2⟩ := Rs.bd_inv q
  exact gm_ifJ Zs (hc k q1) (h1 k) (h2 k) h o q2
theorem gm_forM {mx : Rs (List α)} {f : S → α → Rs S} {g : S → Rs O} (Zs : S → PL.Ctx) (s0 : S) (hc : X.calm = true) (hp : PassesOwn (model X.prog X.w) X.A X.env X.xe) (src : EvIM X tg e Z r mx) (hb0 : Z.b = (Zs s0).b) (hs0 : SubS Z.sl (Zs s0).sl) (hc0 : Z.ce = (Zs s0).ce)
    (turn : ∀ (B : Hp) (x : α) (s : S), ∃ Z', EvG X tg r x ((Zs s).up B) Z' ∧ GM X body Z' (DF Zs B) (f s x)) (after : ∀ s, GM X rest (Zs s) D (g s))
    (hs : ∀ x, foldedSetIterable e X.env x = pure x := by intro _; rfl) : GM X (.For tg e body [] pos :: rest) Z D (mx.bd fun xs => (foldR f s0 xs).bd g) := fun o q => by
  obtain ⟨xs, q1, q2⟩ := Rs.bd_inv q
  exact gm_for Zs s0 hc hp (src xs q1) hb0 hs0 hc0 turn after hs o q2
theorem gm_forXM {mx : Rs (List α)} {f : S → α → Rs (Stp S ζ)} {g : S → Rs O} (er : ζ → O) (Zs : S → PL.Ctx) (s0 : S) (hc : X.calm = true) (hp : PassesOwn (model X.prog X.w) X.A X.env X.xe) (src : EvIM X tg e Z r mx) (hb0 : Z.b = (Zs s0).b) (hs0 : SubS Z.sl (Zs s0).sl) (hc0 : Z.ce = (Zs s0).ce)
    (turn : ∀ (B : Hp) (x : α) (s : S), ∃ Z', EvG X tg r x ((Zs s).up B) Z' ∧ GM X body Z' (DX Zs B D er) (f s x)) (after : ∀ s, GM X rest (Zs s) D (g s))
    (hs : ∀ x, foldedSetIterable e X.env x = pure x := by intro _; rfl) : GM X (.For tg e body [] pos :: rest) Z D (mx.bd fun xs => (forX f s0 xs).bd (Stp.fin g er)) := fun o q => by
  obtain ⟨xs, q1, q2⟩ := Rs.bd_inv q
  exact gm_forX er Zs s0 hc hp (src xs q1) hb0 hs0 hc0 turn after hs o q2
theorem gm_putDM (j : Nat) {l : Addr} {kvs : List (Text × α)} {m2 : Rs Text} {f : List (Text × α) → Rs O} {d : Expr} {pos' : Pos} (hr : Room k X.A) (hv : EvM X e Z r m) (hd : EvE X d Z rRef l) (ha : EvM X a Z rC m2) (hj : Z.ce[j]? = some (.dic l r kvs))
    (h : ∀ us, GM X rest (Z.setC (Z.ce.set j (.dic l r us))) D (f us)) (hs : swapsWith e (some (.Subscript d a pos')) pos.line X.env = pure false := by rfl) : GM X (.Assign [.Subscript d a pos'] e pos :: rest) Z D (m.bd fun y => m2.bd fun t => (putR kvs t y).bd f) := fun o' q => by
  obtain ⟨y, q1, q2⟩ := Rs.bd_inv q
  obtain ⟨t, q3, q4⟩ := Rs.bd_inv q2
  exact gm_putD j hr (hv y q1) hd (ha t q3) hj h hs o' q4
end
end PL

/-! Plain rules for what may stop. -/
namespace PL
open PySem PySem.Spec PyProof.Rows L2
theorem bt_of {i : Int} (this : Builtin.Int.intBits i ≤ 1048576) : Bt 1048576 i := by
  unfold Builtin.Int.intBits at this
  unfold Bt
  split at this
  · have e : i.natAbs = 0 := by simp_all
    rw [e]
    decide
  · omega
theorem law_spM {K : PySem.W.Frag} {H : Hp} {a : Addr} {ns : List Int} {E : XK} {f : List Int → Rs Bool} (hl : ns.length ≤ 63) (hS : SqL K H a (ns.map V.int)) (h : f ns = .ok true) : spG (M1 (rL K PL.rI) rB f) [.ref a] H (fun v _ => v = .bl true) E :=
  ⟨[.val (rL K PL.rI) ns], H, _, ⟨ns, true, rfl, h, rfl⟩, (Same.refl _).smf, .cons ⟨a, _, rfl, hS, pof (f := V.int) (F := PL.rI.rd H) (fun _ => rfl) ns, by rw [sizeLine_eq]; omega⟩ .nil, fun _ _ _ _ h => h⟩
section
variable {α β S T ζ O : Type}
theorem ixR_at {xs : List α} {i : Int} {j : Nat} {x : α} (hi : i = (j : Int)) (h : xs[j]? = some x) : ixR xs i = .ok x := by
  subst hi
  unfold ixR
  rw [atI_nat h]
theorem catR_ok {x y : List α} (h : x.length + y.length ≤ 16777216) : catR x y = .ok (x ++ y) := Rs.gd_pos h
theorem appR_ok {xs : List α} {x : α} (h : xs.length < 16777216) : appR xs x = .ok (xs ++ [x]) := Rs.gd_pos h
theorem putR_ok {kvs : List (Text × α)} {t : Text} {y : α} (h : kvs.length < 16777216) : putR kvs t y = .ok (dput kvs t y) := Rs.gd_pos h
theorem rngR_ok {n : Int} (h0 : 0 ≤ n) (h : n ≤ 16777216) : rngR n = .ok (rngL 0 n.toNat) := Rs.gd_pos ⟨by omega, h⟩
theorem modR_ok {i j : Int} (h : 0 < j) : modR i j = .ok (i % j) := Rs.gd_pos h
theorem divR_ok {i j : Int} (h : 0 < j) (h2 : j.natAbs < 2 ^ 64) : divR i j = .ok (i / j) := by
  unfold divR
  rw [Rs.gd_pos ⟨by omega, Nat.lt_of_le_of_lt (log2_le (n := 64) (Nat.lt_of_lt_of_le h2 (Nat.pow_le_pow_right (by decide) (by decide)))) (by decide)⟩, Int.fdiv_eq_ediv_of_nonneg _ (by omega)]
theorem mulR_ok {i j : Int} (h : IntMulOk i j) : mulR i j = .ok (i * j) := Rs.gd_pos h
theorem rngL_at {lo : Int} {n i : Nat} {x : Int} (h : (rngL lo n)[i]? = some x) : x = lo + (i : Int) ∧ i < n := by
  have hi := (List.getElem?_eq_some_iff.mp h).1
  rw [rngL_len] at hi
  rw [rngL_get hi] at h
  exact ⟨(Option.some.inj h).symm, hi⟩
end
section
variable {α β S T ζ O : Type} {m m1 m2 : Rs α} {f : α → Rs β} {P : α → Prop} {Q : β → Prop} {k : Bool}
def Yes (m : Rs α) (Q : α → Prop) : Prop := ∃ y, m = .ok y ∧ Q y
theorem Yes.ok {y : β} (h : Q y) : Yes (.ok y) Q := ⟨y, rfl, h⟩
theorem Yes.bd (h : Yes m P) (q : ∀ x, P x → Yes (f x) Q) : Yes (m.bd f) Q := by
  obtain ⟨x, rfl, h2⟩ := h
  exact q x h2
theorem Yes.by {x : α} (h : m = .ok x) (q : Yes (f x) Q) : Yes (m.bd f) Q := by
  subst h
  exact q
theorem Yes.val {x : α} (q : Yes (f x) Q) : Yes ((Rs.ok x).bd f) Q := q
theorem Yes.as {γ : Type} {g : β → Rs γ} {R : γ → Prop} (q : Yes (m.bd fun x => (f x).bd g) R) : Yes ((m.bd f).bd g) R := by
  rw [Rs.bd_as]
  exact q
theorem Yes.mono {R : β → Prop} {m : Rs β} (h : Yes m Q) (q : ∀ y, Q y → R y) : Yes m R := let ⟨y, h1, h2⟩ := h; ⟨y, h1, q y h2⟩
theorem Yes.if (h1 : k = true → Yes m1 P) (h2 : k = false → Yes m2 P) : Yes (if k = true then m1 else m2) P := by
  cases k with
  | true => exact h1 rfl
  | false => exact h2 rfl
theorem Yes.fold {h : S → α → Rs S} {g : S → Rs β} {xs : List α} {s0 : S} (I : Nat → S → Prop) (h0 : I 0 s0) (hs : ∀ i x s, xs[i]? = some x → I i s → Yes (h s x) (I (i + 1))) (q : ∀ s, I xs.length s → Yes (g s) Q) : Yes ((foldR h s0 xs).bd g) Q := by
  obtain ⟨s, e, i⟩ := foldR_inv I h0 hs
  rw [e]
  exact q s i
theorem Yes.app {x : α} {xs : List α} {g : List α → Rs β} (h : xs.length < 16777216) (q : Yes (g (xs ++ [x])) Q) : Yes ((appR xs x).bd g) Q := Yes.by (appR_ok h) q
theorem Yes.cat {xs ys : List α} {g : List α → Rs β} (h : xs.length + ys.length ≤ 16777216) (q : Yes (g (xs ++ ys)) Q) : Yes ((catR xs ys).bd g) Q := Yes.by (catR_ok h) q
theorem Yes.put {kvs : List (Text × α)} {t : Text} {y : α} {g : List (Text × α) → Rs β} (h : kvs.length < 16777216) (q : Yes (g (dput kvs t y)) Q) : Yes ((putR kvs t y).bd g) Q := Yes.by (putR_ok h) q
theorem Yes.rng {n : Int} {f : List Int → Rs β} (h0 : 0 ≤ n) (h : n ≤ 16777216) (q : Yes (f (rngL 0 n.toNat)) Q) : Yes ((rngR n).bd f) Q := Yes.by (rngR_ok h0 h) q
theorem Yes.map {h : α → Rs β} {xs : List α} {R : List β → Prop} {T : α → β → Prop} (hs : ∀ x ∈ xs, Yes (h x) (T x)) (q : ∀ ys : List β, Paired T xs ys → R ys) : Yes (mapR h xs) R := by
  induction xs generalizing R with
  | nil => exact ⟨[], rfl, q [] .nil⟩
  | cons x xs ih =>
    obtain ⟨y, e1, t1⟩ := hs x (List.mem_cons_self ..)
    obtain ⟨ys, e2, t2⟩ := ih (R := fun ys => Paired T xs ys) (fun z hz => hs z (List.mem_cons_of_mem _ hz)) fun _ h => h
    exact ⟨y :: ys, by unfold mapR; rw [e1, e2]; rfl, q _ (.cons t1 t2)⟩
end
end PL

/-! Expressions that change a list on their way (a tape that is drawn from); defs that change a list handed in. -/
namespace PL
open PySem PySem.Spec PyProof.Rows L2
section
variable {X : Cx} {Z : PL.Ctx} {α β γ δ S ζ O τ : Type} {r : Rel α} {s : Rel β} {x : α} {pos p p2 : Pos} {a b c e f tg elt d : Expr} {es : List Expr} {D : O → Ends} {body rest th el : List Stmt} {n : Str} {k : Nat} {Zs : S → PL.Ctx}
def EvS (X : Cx) (e : Expr) (Z : PL.Ctx) {S : Type} (Zs : S → PL.Ctx) {α : Type} (r : Rel α) (m : Rs (α × S)) : Prop :=
  ∀ q, m = .ok q → ∀ G H σ Q, Env Z G H σ → (∀ G' H' v, Same G G' → Env (Zs q.2) G' H' σ → r.rd G' v q.1 → Q v H') → wE X e σ H Q
def EvTS (X : Cx) (e : Expr) (Z : PL.Ctx) {S : Type} (Zs : S → PL.Ctx) (m : Rs (Bool × S)) : Prop :=
  ∀ q, m = .ok q → ∀ G H σ Q, Env Z G H σ → (∀ G' H', Same G G' → Env (Zs q.2) G' H' σ → Q q.1 H') → wT X e σ H Q
def EvWS (X : Cx) (e : Expr) (Z : PL.Ctx) {S : Type} (Zs : S → PL.Ctx) (m : Rs (Bool × S)) : Prop :=
  ∀ q, m = .ok q → ∀ G H σ Q, Env Z G H σ → (∀ G' H', Same G G' → Env (Zs q.2) G' H' σ → Q q.1 H') → wW X e σ H Q
def EvFS (X : Cx) (e : Expr) (Z : PL.Ctx) {S : Type} (Zs : S → PL.Ctx) {α : Type} (r : Rel α) (m : Rs (List α × S)) : Prop :=
  ∀ q, m = .ok q → ∀ G H σ Q, Env Z G H σ → (∀ G' H' o vs, Same G G' → Env (Zs q.2) G' H' σ → Z.b.H0 o = none → (∀ c ∈ (Zs q.2).ce, c.addr ≠ o) → G' o = none → H' o = some (.lst vs) → Paired (r.rd G') vs q.1 → q.1.length ≤ sizeLine → Q (.ref o) H') → wE X e σ H Q
def EvAS (X : Cx) (es : List Expr) (Z : PL.Ctx) {S : Type} (Zs : S → PL.Ctx) {A : Type} (sl : A → List Slot) (m : Rs (A × S)) : Prop :=
  ∀ q, m = .ok q → ∀ G H σ Q, Env Z G H σ → (∀ G' H' vs, Same G G' → Env (Zs q.2) G' H' σ → Slv G' vs (sl q.1) → Q vs H') → wA X es σ H Q
def EvIS (X : Cx) (tg iter : Expr) (Z : PL.Ctx) {S : Type} (Zs : S → PL.Ctx) {α : Type} (r : Rel α) (m : Rs (List α × S)) : Prop :=
  ∀ q, m = .ok q → ∃ wi : TI, PI X tg iter wi ∧ ∀ G H σ R, Env Z G H σ → (∀ G' H' J, Same G G' → Env (Zs q.2) G' H' σ → Walks J G' r q.1 → q.1.length ≤ sizeLine → R J H') → wi σ H R
theorem Env.is {G H : Hp} {σ : L2.St} {W : PL.Ctx} (E : Env Z G H σ) (hb : Z.b = W.b) (hs : Z.sl = W.sl) (hc : Z.ce = W.ce) : Env W G H σ := ⟨hb ▸ E.ex, hb ▸ E.ab, hs ▸ E.sl, hb ▸ hc ▸ E.ce, hc ▸ E.nd⟩
theorem es_m {m : Rs α} (t : S) (h : EvM X e Z r m) (hb : Z.b = (Zs t).b := by rfl) (hs : Z.sl = (Zs t).sl := by rfl) (hc : Z.ce = (Zs t).ce := by rfl) : EvS X e Z Zs r (m.bd fun x => .ok (x, t)) := fun q hq G H σ Q E k => by
  obtain ⟨x, h1, h2⟩ := Rs.bd_inv hq
  cases h2
  exact h x h1 G H σ Q E fun G1 H1 v e1 g1 => k G1 H1 v e1.g ((E.ext e1).is hb hs hc) g1
theorem ets_m {m : Rs Bool} (t : S) (h : EvTM X e Z m) (hb : Z.b = (Zs t).b := by rfl) (hs : Z.sl = (Zs t).sl := by rfl) (hc : Z.ce = (Zs t).ce := by rfl) : EvTS X e Z Zs (m.bd fun x => .ok (x, t)) := fun q hq G H σ Q E k => by
  obtain ⟨x, h1, h2⟩ := Rs.bd_inv hq
  cases h2
  exact h x h1 G H σ Q E fun G1 H1 e1 => k G1 H1 e1.g ((E.ext e1).is hb hs hc)
theorem eis_m {m : Rs (List α)} (t : S) (h : EvIM X tg e Z r m) (hb : Z.b = (Zs t).b := by rfl) (hs : Z.sl = (Zs t).sl := by rfl) (hc : Z.ce = (Zs t).ce := by rfl) : EvIS X tg e Z Zs r (m.bd fun x => .ok (x, t)) := fun q hq => by
  obtain ⟨x, h1, h2⟩ := Rs.bd_inv hq
  cases h2
  obtain ⟨wi, pi, hw⟩ := h x h1
  exact ⟨wi, pi, fun G H σ R E k => hw G H σ R E fun G1 H1 J e1 W hl => k G1 H1 J e1.g ((E.ext e1).is hb hs hc) W hl⟩
theorem es2 {rel : R2} {ra : Rel α} {rb : Rel β} {rc : Rel γ} {m1 : Rs (α × S)} {m2 : α × S → Rs (β × S)} {op : α → β → Rs γ} (q : PE X e (tOp rel (wE X a) (wE X b))) (ha : EvS X a Z Zs ra m1) (hb : ∀ q, EvS X b (Zs q.2) Zs rb (m2 q))
    (h : ∀ x y z, op x y = .ok z → ∀ G H v w Q, SmF G H → ra.rd G v x → rb.rd G w y → (∀ G' H' u, Ext G H G' H' → rc.rd G' u z → Q u H') → rel v w H Q) :
    EvS X e Z Zs rc (m1.bd fun x => (m2 x).bd fun y => (op x.1 y.1).bd fun z => .ok (z, y.2)) := fun w hw G H σ Q E k => by
  obtain ⟨x, g1, g2⟩ := Rs.bd_inv hw
  obtain ⟨y, g3, g4⟩ := Rs.bd_inv g2
  obtain ⟨z, g5, g6⟩ := Rs.bd_inv g4
  cases g6
  exact toE q (ha x g1 G H σ _ E fun G1 H1 v s1 E1 r1 => hb x y g3 G1 H1 σ _ E1 fun G2 H2 u s2 E2 r2 => h x.1 y.1 z g5 G2 H2 v u Q E2.le (ra.mono s2 r1) r2 fun G3 H3 t e3 r3 => k G3 H3 t (s1.trans (s2.trans e3.g)) (E2.ext e3) r3)
/-! ### operators -/
variable {mi : Rs (Int × S)} {mj : Int × S → Rs (Int × S)} {mt : Rs (Text × S)} {mu : Text × S → Rs (Text × S)} {mv : Text × S → Rs (Int × S)} {ml : Rs (List α × S)} {mw : List α × S → Rs (Int × S)}
theorem es_add (ha : EvS X a Z Zs PL.rI mi) (hb : ∀ q, EvS X b (Zs q.2) Zs PL.rI (mj q)) : EvS X (.BinOp a .Add b pos) Z Zs PL.rI (mi.bd fun x => (mj x).bd fun y => (Rs.ok (x.1 + y.1)).bd fun z => .ok (z, y.2)) :=
  es2 (op := fun x y => .ok (x + y)) (pe_op op_add ce ce) ha hb fun x y z hz => by cases hz; exact opI02 (f := fun i j => i + j)
theorem es_cat (ha : EvS X a Z Zs rC mt) (hb : ∀ q, EvS X b (Zs q.2) Zs rC (mu q)) : EvS X (.BinOp a .Add b pos) Z Zs rC (mt.bd fun x => (mu x).bd fun y => (catR x.1 y.1).bd fun z => .ok (z, y.2)) :=
  es2 (op := catR) (pe_op op_add_str ce ce) ha hb fun x y z hz => by
    obtain ⟨hl, h2⟩ := Rs.gd_inv hz
    cases h2
    intro G H v w Q s h1 h2 k
    obtain ⟨rfl, o1⟩ := h1
    obtain ⟨rfl, o2⟩ := h2
    have hl' : x.length + y.length ≤ sizeLine := by rw [sizeLine_eq]; exact hl
    exact ⟨_, _, rfl, rfl, by rw [mkS_len, mkS_len]; exact hl', k G H _ (.refl s) ⟨by rw [mkS_app], o1.app o2 hl'⟩⟩
theorem es_ixL (ha : EvS X a Z Zs (rL X.K r) ml) (hb : ∀ q, EvS X b (Zs q.2) Zs PL.rI (mw q)) (hs : PlainIx b := by exact fun _ _ => rfl) : EvS X (.Subscript a b pos) Z Zs r (ml.bd fun x => (mw x).bd fun y => (ixR x.1 y.1).bd fun z => .ok (z, y.2)) :=
  es2 (op := ixR) (pe_ix ix_list ce ce hs) ha hb fun xs i y q G H v w Q s h1 h2 k => by
    have q := ixR_inv q
    obtain ⟨l, us, rfl, h3, h4, _⟩ := h1
    unfold atI at q
    cases e : ixN xs.length i with
    | none => rw [e] at q; cases q
    | some j =>
      rw [e] at q
      obtain ⟨u, h5, h6⟩ := pget' h4 q
      exact ⟨l, us, i, u, rfl, h2, s.seq h3, by unfold atI; rw [plen h4, e]; exact h5, k G H _ (.refl s) h6⟩
theorem es_ixC (ha : EvS X a Z Zs rC mt) (hb : ∀ q, EvS X b (Zs q.2) Zs PL.rI (mv q)) (hs : PlainIx b := by exact fun _ _ => rfl) : EvS X (.Subscript a b pos) Z Zs rC (mt.bd fun x => (mv x).bd fun y => (sgnR x.1 y.1).bd fun z => .ok (z, y.2)) :=
  es2 (op := sgnR) (pe_ix ix_str ce ce hs) ha hb fun x i y q G H v w Q s h1 h2 k => by
    obtain ⟨ch, hj, q⟩ := Rs.bd_inv q
    cases q
    have hj := ixR_inv hj
    obtain ⟨rfl, o1⟩ := h1
    cases h2
    have hm : ch ∈ x := by
      unfold atI at hj
      cases e : ixN x.length i with
      | none => rw [e] at hj; cases hj
      | some j => rw [e] at hj; exact List.mem_of_getElem? hj
    exact ⟨_, i, ch, rfl, rfl, by rw [mkS_len]; exact o1.1, by rw [show (mkS x).cps.toList = x from tx_mk x]; exact hj, k G H _ (.refl s) ⟨rfl, o1.one hm⟩⟩
/-! ### comparisons -/
def CmpS (X : Cx) (op : CmpOp) (a b : Expr) (Z : PL.Ctx) {S : Type} (Zs : S → PL.Ctx) (m : Rs (Bool × S)) : Prop :=
  behindInMarks op b = false ∧ ∃ t : TE, PC X op a b t ∧ ∀ q, m = .ok q → ∀ G H σ Q, Env Z G H σ → (∀ G' H', Same G G' → Env (Zs q.2) G' H' σ → Q (.bl q.1) H') → t σ H Q
theorem cs2 {op : CmpOp} {rel : R2} {ra : Rel α} {rb : Rel β} {m1 : Rs (α × S)} {m2 : α × S → Rs (β × S)} {fb : α → β → Bool} (ho : OpR X (compareOp op) rel) (hm : behindInMarks op b = false) (ha : EvS X a Z Zs ra m1) (hb : ∀ q, EvS X b (Zs q.2) Zs rb (m2 q))
    (h : ∀ x y G H v w Q, SmF G H → ra.rd G v x → rb.rd G w y → (∀ G' H' u, Ext G H G' H' → rB.rd G' u (fb x y) → Q u H') → rel v w H Q) : CmpS X op a b Z Zs (m1.bd fun x => (m2 x).bd fun y => .ok (fb x.1 y.1, y.2)) := ⟨hm, _, pc_of ho ce ce, fun q hq G H σ Q E k => by
  obtain ⟨x, g1, g2⟩ := Rs.bd_inv hq
  obtain ⟨y, g3, g4⟩ := Rs.bd_inv g2
  cases g4
  exact ha x g1 G H σ _ E fun G1 H1 v s1 E1 r1 => hb x y g3 G1 H1 σ _ E1 fun G2 H2 u s2 E2 r2 => h x.1 y.1 G2 H2 v u Q E2.le (ra.mono s2 r1) r2 fun G3 H3 t e3 r3 => by
    obtain rfl : t = .bl _ := r3
    exact k G3 H3 (s1.trans (s2.trans e3.g)) (E2.ext e3)⟩
theorem ets_c {op : CmpOp} {m : Rs (Bool × S)} (h : CmpS X op a b Z Zs m) : EvTS X (.Compare a [op] [b] pos) Z Zs m := by
  obtain ⟨hm, t, ho, h⟩ := h
  exact fun q hq G H σ Q E k => toT (pt_cmp ho hm) (h q hq G H σ _ E fun G1 H1 s1 E1 => ⟨_, rfl, k G1 H1 s1 E1⟩)
theorem cs_gt (ha : EvS X a Z Zs PL.rI mi) (hb : ∀ q, EvS X b (Zs q.2) Zs PL.rI (mj q)) : CmpS X .Gt a b Z Zs (mi.bd fun x => (mj x).bd fun y => .ok (decide (y.1 < x.1), y.2)) := cs2 (fb := fun x y => decide (y < x)) op_gt (nomark _) ha hb fun _ _ => opB02 (f := fun i j => decide (j < i))
/-! ### tests -/
theorem ets_w {m : Rs (Bool × S)} (h : EvWS X e Z Zs m) : EvTS X e Z Zs m := fun q hq G H σ Q E k => toT (PW.pt cw) (h q hq G H σ Q E k)
theorem ews_and1 {m : Rs (Bool × S)} (h : EvTS X a Z Zs m) : EvWS X (.BoolOp .And [a] pos) Z Zs m := fun q hq G H σ Q E k => toW (pw_and1 ct) (h q hq G H σ _ E k)
theorem ews_or1 {m : Rs (Bool × S)} (h : EvTS X a Z Zs m) : EvWS X (.BoolOp .Or [a] pos) Z Zs m := fun q hq G H σ Q E k => toW (pw_or1 ct) (h q hq G H σ _ E k)
theorem ews_and {m : Rs (Bool × S)} {m2 : Bool × S → Rs (Bool × S)} (ha : EvTS X a Z Zs m) (hb : ∀ q, EvWS X (.BoolOp .And (b :: es) pos) (Zs q.2) Zs (m2 q)) : EvWS X (.BoolOp .And (a :: b :: es) pos) Z Zs (m.bd fun q => if q.1 = true then m2 q else .ok (false, q.2)) := fun q hq G H σ Q E k => by
  obtain ⟨y, g1, g2⟩ := Rs.bd_inv hq
  refine toW (pw_and ct cw) (ha y g1 G H σ _ E fun G1 H1 s1 E1 => ?_)
  cases hy : y.1 with
  | true =>
    rw [hy, if_pos rfl] at g2
    exact hb y q g2 G1 H1 σ Q E1 fun G2 H2 s2 E2 => k G2 H2 (s1.trans s2) E2
  | false =>
    rw [hy, if_neg Bool.false_ne_true] at g2
    cases g2
    exact k G1 H1 s1 E1
theorem ews_or {m : Rs (Bool × S)} {m2 : Bool × S → Rs (Bool × S)} (ha : EvTS X a Z Zs m) (hb : ∀ q, EvWS X (.BoolOp .Or (b :: es) pos) (Zs q.2) Zs (m2 q)) : EvWS X (.BoolOp .Or (a :: b :: es) pos) Z Zs (m.bd fun q => if q.1 = true then .ok (true, q.2) else m2 q) := fun q hq G H σ Q E k => by
  obtain ⟨y, g1, g2⟩ := Rs.bd_inv hq
  refine toW (pw_or ct cw) (ha y g1 G H σ _ E fun G1 H1 s1 E1 => ?_)
  cases hy : y.1 with
  | false =>
    rw [hy, if_neg Bool.false_ne_true] at g2
    exact hb y q g2 G1 H1 σ Q E1 fun G2 H2 s2 E2 => k G2 H2 (s1.trans s2) E2
  | true =>
    rw [hy, if_pos rfl] at g2
    cases g2
    exact k G1 H1 s1 E1
/-! ### arguments -/
theorem eas_nil (t : S) (hb : Z.b = (Zs t).b := by rfl) (hs : Z.sl = (Zs t).sl := by rfl) (hc : Z.ce = (Zs t).ce := by rfl) : EvAS X [] Z Zs (fun _ : Unit => []) (.ok ((), t)) := fun q hq G H σ Q E k => by
  cases hq
  exact toA pa_nil (k G H [] (Same.refl _) (E.is hb hs hc) .nil)
theorem eas_cons {A : Type} {sl : A → List Slot} {m : Rs (α × S)} {m2 : α × S → Rs (A × S)} (h : EvS X e Z Zs r m) (hr : ∀ q, EvAS X es (Zs q.2) Zs sl (m2 q)) (hs : starEach (e :: es) X.env = (false, eval e X.env) :: starEach es X.env := by rfl) :
    EvAS X (e :: es) Z Zs (fun q : α × A => .val r q.1 :: sl q.2) (m.bd fun x => (m2 x).bd fun y => .ok ((x.1, y.1), y.2)) := fun q hq G H σ Q E k => by
  obtain ⟨x, g1, g2⟩ := Rs.bd_inv hq
  obtain ⟨y, g3, g4⟩ := Rs.bd_inv g2
  cases g4
  exact toA (pa_cons ce ca hs) (h x g1 G H σ _ E fun G1 H1 v s1 E1 h1 => hr x y g3 G1 H1 σ _ E1 fun G2 H2 vs s2 E2 h2 => k G2 H2 (v :: vs) (s1.trans s2) E2 (.cons (r.mono s2 h1) h2))
end
end PL

/-! Lists handed in and changed; statements with a state. -/
namespace PL
open PySem PySem.Spec PyProof.Rows L2
/-! ### a def that changes the list handed in first -/
def spB {τ : Type} (rt : Rel τ) (Pr : List Slot → List τ → List τ → (Hp → V → Prop) → Prop) : Sp := fun vs H Q _ => ∃ (o : Addr) (us : List V) (ss : List Slot) (G : Hp) (ws : List V) (xs ys : List τ) (R : Hp → V → Prop), vs = .ref o :: us ∧ Pr ss xs ys R ∧ SmF G H ∧ H o = some (.lst ws) ∧ G o = none ∧ Paired (rt.rd G) ws xs ∧ xs.length ≤ sizeLine ∧ Slv G us ss ∧
  ∀ G' H' v ws', Ext G (hid H o) G' H' → G' o = none → H' o = some (.lst ws') → Paired (rt.rd G') ws' ys → ys.length ≤ sizeLine → R G' v → Q v H'
def RtB {τ : Type} (G0 H : Hp) (o : Addr) (rt : Rel τ) (ys : List τ) (R : Hp → V → Prop) : VK := fun v H' => ∃ G' ws', Ext G0 (hid H o) G' H' ∧ G' o = none ∧ H' o = some (.lst ws') ∧ Paired (rt.rd G') ws' ys ∧ ys.length ≤ sizeLine ∧ R G' v
abbrev retB {τ : Type} (G0 H : Hp) (o : Addr) (rt : Rel τ) (ys : List τ) (R : Hp → V → Prop) : Ends := { nx := fun _ H' => RtB G0 H o rt ys R .non H', rt := RtB G0 H o rt ys R }
section
variable {P : Program} {w : World} {K : PySem.W.Frag} {mg : Str → Option Value} {base : Heap} {τ : Type} {rt : Rel τ}
theorem fn_b {x qual : Str} {st : Stmt} {f : Addr} {fd : FuncData} {N ps : List Str} {k : Nat} {Pr : List Slot → List τ → List τ → (Hp → V → Prop) → Prop} (F : FunD K x qual (defArgs st) (defBody st) (defScope st) [] [] f fd) (S : FnScope N ps (defScope st)) (len : ∀ ss xs ys R, Pr ss xs ys R → ss.length + 1 = ps.length)
    (body : ∀ (cdv : Value) (A : Around) (outer : List PySem.Env) (s : Shared) (H : Hp) (E : XK) (G : Hp) (o : Addr) (ss : List Slot) (xs ys : List τ) (R : Hp → V → Prop), Room k (A.deeper (envOfC qual (defScope st) s.heap.objs.size f cdv)) → Pr ss xs ys R →
      Goes (cxOf CX0 P w K mg base N qual (defScope st) f cdv A outer s H E).nox (defBody st) ⟨⟨G, hid H o, []⟩, (.val rRef o :: ss) ++ List.replicate (N.length - (ss.length + 1)) .any, [.lst o rt xs]⟩ (retB G H o rt ys R)) : FnOk P w K mg base CX0 (k + 1) f fd ps (spB rt Pr) := by
  refine F.ok S (fun vs H Q E h => ?_) (fun cdv A outer s H vs Q E hr h => ?_)
  · obtain ⟨o, us, ss, G, ws, xs, ys, R, rfl, h1, h2, h3, h4, h5, h6, h7, h8⟩ := h
    rw [List.length_cons, slv_len h7, len ss xs ys R h1]
  · obtain ⟨o, us, ss, G, ws, xs, ys, R, rfl, h1, h2, h3, h4, h5, h6, h7, h8⟩ := h
    refine ⟨wSs _ _, PSs.nox css, ?_⟩
    constructor
    intro pins s' I
    have sl : Slv G (.ref o :: us) (.val rRef o :: ss) := .cons rfl h7
    have st0 := env_start (N := N) h2 sl
    have E0 : Env ⟨⟨G, hid H o, []⟩, (.val rRef o :: ss) ++ List.replicate (N.length - (ss.length + 1)) .any, [.lst o rt xs]⟩ G H (L2.start N (.ref o :: us)) := by
      refine ⟨⟨Same.refl _, h2, hid_sub H o, fun b _ z => z⟩, (fun B hB => by cases hB), st0.sl, fun c hc => ?_, by simp⟩
      rw [List.mem_singleton.mp hc]
      exact Cell.lst_ok hid_same h4 h3 h5 h6
    refine thn ((body cdv A outer s H E G o ss xs ys R hr h1 G H (L2.start N (.ref o :: us)) E0).run pins s' I) fun fl s1 hq => ?_
    cases fl with
    | next =>
      obtain ⟨σ', H', I', G', ws', q1, q2, q3, q4, q5, q6⟩ := hq
      exact ⟨σ', H', I', h8 G' H' _ ws' q1 q2 q3 q4 q5 q6⟩
    | brk => exact hq
    | cont => exact hq
    | ret u =>
      obtain ⟨v, σ', H', I', rv, G', ws', q1, q2, q3, q4, q5, q6⟩ := hq
      exact ⟨v, σ', H', I', rv, h8 G' H' v ws' q1 q2 q3 q4 q5 q6⟩
end
theorem Env.byref {Z : PL.Ctx} {τ : Type} {rt : Rel τ} {G H G' H' : Hp} {σ : L2.St} {j : Nat} {o : Addr} {xs ys : List τ} {ws : List V} (E : Env Z G H σ) (hj : Z.ce[j]? = some (.lst o rt xs)) (e : Ext G (hid H o) G' H') (h1 : G' o = none) (h2 : H' o = some (.lst ws)) (h3 : Paired (rt.rd G') ws ys) (h4 : ys.length ≤ sizeLine) :
    Env (Z.setC (Z.ce.set j (.lst o rt ys))) G' H' σ := by
  have hjl : j < Z.ce.length := (List.getElem?_eq_some_iff.mp hj).1
  have hmem : Cell.lst o rt xs ∈ Z.ce := List.mem_of_getElem? hj
  obtain ⟨h0, hG, vs0, hH, _, _⟩ := Cell.ok_lst (E.ce _ hmem)
  have e2 : (Z.ce.map Cell.addr)[j]? = some o := by rw [List.getElem?_map, hj]; rfl
  have hm : (Z.ce.set j (.lst o rt ys)).map Cell.addr = Z.ce.map Cell.addr := by
    rw [List.map_set]
    exact set_self e2
  have sH : ∀ b u, b ≠ o → H b = some u → H' b = some u := fun b u hb hu => e.h b u (by rw [hid_ne hb]; exact hu)
  refine ⟨⟨E.ex.g.trans e.g, e.s, fun b u hb => ?_, fun b hb hg => ?_⟩, fun B hB => (E.ab B hB).trans e.g, fun i s hi => let ⟨ov, q1, q2⟩ := E.sl i s hi; ⟨ov, q1, Slot.ok_mono e.g q2⟩, fun c hc => ?_, by show ((Z.ce.set j _).map Cell.addr).Nodup; rw [hm]; exact E.nd⟩
  · exact sH b u (ne_of_none hb h0) (E.ex.h b u hb)
  · have hbo : b ≠ o := fun z => hb (z ▸ h0)
    exact e.n b (by rw [hid_ne hbo]; exact nn_same E.ex.h hb) (E.ex.n b hb hg)
  · obtain ⟨i, hi⟩ := List.getElem?_of_mem hc
    have hi' : (Z.ce.set j (.lst o rt ys))[i]? = some c := hi
    by_cases hij : j = i
    · subst hij
      rw [List.getElem?_set_self hjl] at hi'
      have e3 := Option.some.inj hi'
      subst e3
      exact Cell.lst_ok h0 h1 h2 h3 h4
    · rw [List.getElem?_set_ne hij] at hi'
      obtain ⟨c0, cG, u, cH, cI⟩ := E.ce c (List.mem_of_getElem? hi')
      have hne : c.addr ≠ o := fun z => by
        have e1 : (Z.ce.map Cell.addr)[i]? = some o := by rw [List.getElem?_map, hi']; exact congrArg some z
        exact hij (nd_inj E.nd e2 e1)
      exact ⟨c0, e.n _ (by rw [hid_ne hne, cH]; exact fun z => by cases z) cG, u, sH _ _ hne cH, Cell.is_mono e.g cI⟩
section
variable {X : Cx} {Z : PL.Ctx} {α β γ δ S ζ O τ : Type} {r : Rel α} {s : Rel β} {rt : Rel τ} {x : α} {pos p p2 : Pos} {a b c e f tg elt d : Expr} {es : List Expr} {D : O → Ends} {body rest th el : List Stmt} {n v : Str} {k : Nat} {Zs : S → PL.Ctx} {Zl : List τ → PL.Ctx}
theorem es_bd {m : Rs β} {g : β → Rs (α × S)} (hm : EvM X a Z s m) (h : ∀ x, EvE X a Z s x → EvS X e Z Zs r (g x)) : EvS X e Z Zs r (m.bd g) := fun y q => let ⟨x, h1, h2⟩ := Rs.bd_inv q; h x (hm x h1) y h2
/-! ### calls -/
theorem es_callB (i j : Nat) {o : Addr} {Pr : List Slot → List τ → List τ → (Hp → V → Prop) → Prop} {ss : List Slot} {rz : Rel ζ} {m : Rs (ζ × List τ)} {px : Pos} (t : List τ) (C : CallOk X.prog X.w X.K X.mg X.base n k (spB rt Pr)) (hr : Room k X.A) (ha : EvA X es Z ss)
    (hP : ∀ z ys, m = .ok (z, ys) → ∃ R, Pr ss t ys R ∧ ∀ G v, R G v → rz.rd G v z)
    (hz : Z.sl[i]? = some (.val rRef o)) (hj : Z.ce[j]? = some (.lst o rt t)) (hset : ∀ u, Zl u = Z.setC (Z.ce.set j (.lst o rt u)) := by intro _; rfl)
    (hg : Gl X n := by rfl) (hdb : (n == ("__debug__" : Str)) = false := by decide) (he : starEach (.Name v px :: es) X.env = (false, eval (.Name v px) X.env) :: starEach es X.env := by rfl) (hpl : (backTo pos (starEach es X.env)).any (·.1) = false := by rfl)
    (hN : X.N[i]? = some v := by rfl) (hv : Vis X.env.scope v := by first | exact Or.inl rfl | exact Or.inr (Or.inl rfl) | exact Or.inr (Or.inr rfl)) (hd : (v == ("__debug__" : Str)) = false := by decide) (hcd : (v == ("__classdict__" : Str)) = false := by decide) :
    EvS X (.Call (.Name n p) (.Name v px :: es) [] pos) Z Zl rz m := fun q hq G H σ Q E kk => by
  obtain ⟨f, fd, ps, F, hm, hk, hb⟩ := C
  obtain ⟨R, h1, h2⟩ := hP q.1 q.2 hq
  obtain ⟨w, g1, g2⟩ := E.get hz
  obtain rfl : w = .ref o := g2
  refine toE (pe_call (E := fun _ _ _ => False) F hr hg hm hk hb .nil pass0 (pa_cons (pe_var hN hv hd hcd) ca he) hdb he hpl) ⟨.ref o, g1, ha G H σ _ E fun G1 H1 vs e1 r1 => ?_⟩
  have E1 := E.ext e1
  obtain ⟨c0, cG, ws, cH, cP, cL⟩ := Cell.ok_lst (E1.ce _ (List.mem_of_getElem? hj))
  refine ⟨o, vs, ss, G1, ws, t, q.2, R, by rw [List.append_nil], h1, e1.s, cH, cG, cP, cL, r1, fun G2 H2 u ws' e2 k1 k2 k3 k4 k5 => ?_⟩
  exact kk G2 H2 u (e1.g.trans e2.g) (by rw [hset]; exact E1.byref hj e2 k1 k2 k3 k4) (h2 G2 u k5)
theorem es_tupG {A : Type} {sl : A → List Slot} {ma : Rs (A × S)} {kk : Nat} {rz : Rel ζ} {g : A → ζ} (ha : EvAS X es Z Zs sl ma) (hl : es.length ≤ 1000) (hsl : ∀ y, (sl y).length = es.length) (hrd : ∀ y G vs t, Slv G vs (sl y) → G t = some (.tup vs) → rz.rd G (.ref t) (g y)) :
    EvS X (.Tuple es kk pos) Z Zs rz (ma.bd fun y => .ok (g y.1, y.2)) := fun q hq G H σ Q E k => by
  obtain ⟨y, gy, g2⟩ := Rs.bd_inv hq
  cases g2
  refine toE (pe_tup ca) (ha y gy G H σ _ E fun G1 H1 vs s1 E1 r1 => ⟨by rw [slv_len r1, hsl, sizeLine_eq]; omega, fun t nt => ?_⟩)
  have e2 := Ext.new (o := .tup vs) E1.le nt
  exact k _ _ (.ref t) (s1.trans e2.g) (E1.ext e2) (hrd y.1 _ vs t (r1.mono e2.g) upd_same)
theorem es_tup3 {r3 : Rel γ} {m : Rs ((α × β × γ × Unit) × S)} {kk : Nat} (ha : EvAS X [a, b, c] Z Zs (fun q : α × β × γ × Unit => [.val r q.1, .val s q.2.1, .val r3 q.2.2.1]) m) : EvS X (.Tuple [a, b, c] kk pos) Z Zs (rT3 X.K r s r3) (m.bd fun y => .ok ((y.1.1, y.1.2.1, y.1.2.2.1), y.2)) :=
  es_tupG (g := fun y : α × β × γ × Unit => (y.1, y.2.1, y.2.2.1)) ha (by simp) (fun _ => rfl) fun y G vs t h ht => by
    obtain ⟨v, w, u, rfl, h1, h2, h3⟩ := slv3 h
    exact ⟨t, v, w, u, rfl, SqT.of ht, h1, h2, h3⟩
/-! ### statements -/
variable {m : Rs (α × S)} {g : α × S → Rs O}
theorem gm_setS (i : Nat) {p' : Pos} (nd : X.N.Nodup) (he : EvS X e Z Zs r m) (h : ∀ q, GM X rest ((Zs q.2).set i (.val r q.1)) D (g q)) (hi : X.N[i]? = some n := by rfl) (hx : Loc X.env.scope n := by first | exact Or.inl rfl | exact Or.inr rfl)
    (hs : swapsWith e (some (.Name n p')) pos.line X.env = pure false := by rfl) (hf : X.fn n = true ∨ X.env.scope.names.lookup n = some .local := by first | exact .inl rfl | exact .inr rfl | assumption) : GM X (.Assign [.Name n p'] e pos :: rest) Z D (m.bd g) := fun o q => by
  obtain ⟨y, q1, q2⟩ := Rs.bd_inv q
  exact goes_of (ps_set nd hi hx ce hs hf) fun G H σ E => he y q1 G H σ _ E fun G1 H1 v s1 E1 h1 => h y o q2 G1 H1 _ (E1.setv ⟨v, rfl, h1⟩)
theorem gm_asgS (he : EvS X e Z Zs r m) (h : ∀ q, ∃ Z', EvG X tg r q.1 (Zs q.2) Z' ∧ GM X rest Z' D (g q)) (hs : swapsWithSole [tg] e pos.line X.env = pure false := by rfl) (hw : swappedStores [tg] e X.env = pure none := by rfl)
    (h1 : (assignEach [tg] X.env).map (·.2) = [assign tg X.env] := by rfl) : GM X (.Assign [tg] e pos :: rest) Z D (m.bd g) := fun o q => by
  obtain ⟨y, q1, q2⟩ := Rs.bd_inv q
  obtain ⟨Z', g1, g2⟩ := h y
  exact goes_of (ps_asg ce cg hs hw h1) fun G H σ E => he y q1 G H σ _ E fun G1 H1 v s1 E1 r1 => g1 G1 H1 σ v _ E1 r1 fun σ' E' => g2 o q2 G1 H1 σ' E'
theorem gm_ifS {mk : Rs (Bool × S)} {g1 g2 : Bool × S → Rs O} (hc : EvTS X c Z Zs mk) (h1 : ∀ q, GM X th (Zs q.2) (DB X rest D) (g1 q)) (h2 : ∀ q, GM X el (Zs q.2) (DB X rest D) (g2 q)) : GM X (.If c th el pos :: rest) Z D (mk.bd fun q => if q.1 = true then g1 q else g2 q) := fun o q => by
  obtain ⟨y, q1, q2⟩ := Rs.bd_inv q
  refine goes_of (ps_if ct css css) fun G H σ E => hc y q1 G H σ _ E fun G1 H1 s1 E1 => ?_
  cases hy : y.1 with
  | true =>
    rw [hy, if_pos rfl] at q2
    rw [if_pos rfl]
    exact h1 y o q2 G1 H1 σ E1
  | false =>
    rw [hy, if_neg Bool.false_ne_true] at q2
    rw [if_neg Bool.false_ne_true]
    exact h2 y o q2 G1 H1 σ E1
end
end PL

/-! Loops, comprehensions, ends with a state; items that are stored. -/
namespace PL
open PySem PySem.Spec PyProof.Rows L2
def mapS {α β S : Type} (f : S → α → Rs (β × S)) : S → List α → Rs (List β × S)
  | t, [] => .ok ([], t)
  | t, x :: xs => (f t x).bd fun q => (mapS f q.2 xs).bd fun p => .ok (q.1 :: p.1, p.2)
theorem mapS_acc {α β S : Type} {f : S → α → Rs (β × S)} : ∀ {xs : List α} {t : S} {q : List β × S}, mapS f t xs = .ok q → ∃ (acc : Nat → List β) (st : Nat → S), acc 0 = [] ∧ st 0 = t ∧ (∀ i, (acc i).length ≤ i) ∧ acc xs.length = q.1 ∧ st xs.length = q.2 ∧ ∀ i x, xs[i]? = some x → ∃ y, f (st i) x = .ok (y, st (i + 1)) ∧ acc (i + 1) = acc i ++ [y]
  | [], t, q, h => by
    cases h
    exact ⟨fun _ => [], fun _ => t, rfl, rfl, fun _ => Nat.zero_le _, rfl, rfl, fun i x hx => by simp at hx⟩
  | x :: xs, t, q, h => by
    unfold mapS at h
    obtain ⟨y, h1, h2⟩ := Rs.bd_inv h
    obtain ⟨p, h3, h4⟩ := Rs.bd_inv h2
    cases h4
    obtain ⟨acc, st, a0, s0, a1, a2, s2, a3⟩ := mapS_acc h3
    refine ⟨fun i => match i with | 0 => [] | i + 1 => y.1 :: acc i, fun i => match i with | 0 => t | i + 1 => st i, rfl, rfl, fun i => ?_, by show y.1 :: acc xs.length = _; rw [a2], s2, fun i z hz => ?_⟩
    · cases i with
      | zero => exact Nat.zero_le _
      | succ i => exact Nat.succ_le_succ (a1 i)
    · cases i with
      | zero =>
        cases hz
        exact ⟨y.1, by show f t x = .ok (y.1, st 0); rw [h1, s0], by show y.1 :: acc 0 = _; rw [a0]; rfl⟩
      | succ i =>
        obtain ⟨w, w1, w2⟩ := a3 i z (by simpa using hz)
        exact ⟨w, w1, by show y.1 :: acc (i + 1) = (y.1 :: acc i) ++ [w]; rw [w2]; rfl⟩
def Ctx.plus (Z : PL.Ctx) (c : Cell) : PL.Ctx := ⟨Z.b, Z.sl, Z.ce ++ [c]⟩
theorem Env.keepO {W : PL.Ctx} {G H : Hp} {σ : L2.St} {o : Addr} {u : HO} (E : Env W G H σ) (h0 : W.b.H0 o = none) (hne : ∀ c ∈ W.ce, c.addr ≠ o) (hG : G o = none) (hH : H o = some u) : Env W (upd G o u) H σ := by
  have s1 : Same G (upd G o u) := same_upd hG
  refine ⟨⟨E.ex.g.trans s1, fun b v hb => ?_, E.ex.h, fun b hb hg => ?_⟩, fun B hB => (E.ab B hB).trans s1, fun i s hi => let ⟨ov, q1, q2⟩ := E.sl i s hi; ⟨ov, q1, Slot.ok_mono s1 q2⟩, fun c hc => ?_, E.nd⟩
  · by_cases hbo : b = o
    · subst hbo
      rw [upd_same] at hb
      rw [← hb]
      exact .inl hH
    · rw [upd_ne hbo] at hb
      exact E.ex.s b v hb
  · have hbo : b ≠ o := fun z => hb (z ▸ h0)
    rw [upd_ne hbo]
    exact E.ex.n b hb hg
  · have hc' := E.ce c hc
    exact Cell.ok_G hc' s1 (by rw [upd_ne (hne c hc)]; exact hc'.2.1)
section
variable {X : Cx} {Z : PL.Ctx} {α β γ δ S ζ O τ : Type} {r : Rel α} {s : Rel β} {rt : Rel τ} {x : α} {pos p p2 : Pos} {a b c e f tg elt d : Expr} {es : List Expr} {D : O → Ends} {body rest th el : List Stmt} {n : Str} {k : Nat} {Zs : S → PL.Ctx}
theorem es_f {m : Rs (List α × S)} (hb : ∀ t, (Zs t).b = Z.b) (h : EvFS X e Z Zs r m) : EvS X e Z Zs (rL X.K r) m := fun q hq G H σ Q E k => h q hq G H σ Q E fun G1 H1 o vs s1 E1 h0 hne h2 h3 h4 h5 =>
  k (upd G1 o (.lst vs)) H1 (.ref o) (s1.trans (same_upd h2)) (E1.keepO (by rw [hb]; exact h0) hne h2 h3) ⟨o, vs, rfl, SqL.of upd_same, pmono (fun _ _ => r.mono (same_upd h2)) h4, h5⟩
/-! ### what is walked -/
theorem eis_range {m : Rs ((Int × Unit) × S)} (hm : X.mg "range" = none) (ha : EvAS X [a] Z Zs (fun q : Int × Unit => [.val PL.rI q.1]) m) (hg : Gl X "range" := by rfl) (hs : starEach [a] X.env = [(false, eval a X.env)] := by rfl) :
    EvIS X tg (.Call (.Name "range" p) [a] [] pos) Z Zs PL.rI (m.bd fun y => (rngR y.1.1).bd fun xs => .ok (xs, y.2)) := fun q hq => by
  obtain ⟨y, g1, g2⟩ := Rs.bd_inv hq
  obtain ⟨xs, g3, g4⟩ := Rs.bd_inv g2
  cases g4
  obtain ⟨hl, g3⟩ := Rs.gd_inv g3
  cases g3
  refine ⟨_, pi_range1 hg hm ca hs, fun G H σ R E k => ha y g1 G H σ _ E fun G1 H1 vs s1 E1 h1 => ?_⟩
  obtain ⟨v, rfl, h2⟩ := slv1 h1
  cases h2
  exact ⟨_, rfl, hl.1, by omega, k G1 H1 _ s1 E1 (walks_rng 0 _ G1) (by rw [rngL_len, sizeLine_eq]; omega)⟩
theorem gm_forS {T : Type} {m : Rs (List α × S)} {ff : T → α → Rs T} {g : List α × S → T → Rs O} (Zt : T → PL.Ctx) (s0 : List α × S → T) (hc : X.calm = true) (hp : PassesOwn (model X.prog X.w) X.A X.env X.xe) (src : EvIS X tg e Z Zs r m) (hb0 : ∀ q, (Zs q.2).b = (Zt (s0 q)).b) (hs0 : ∀ q, SubS (Zs q.2).sl (Zt (s0 q)).sl) (hc0 : ∀ q, (Zs q.2).ce = (Zt (s0 q)).ce)
    (turn : ∀ (B : Hp) (x : α) (s : T), ∃ Z', EvG X tg r x ((Zt s).up B) Z' ∧ GM X body Z' (DF Zt B) (ff s x)) (after : ∀ q s, GM X rest (Zt s) D (g q s))
    (hs : ∀ x, foldedSetIterable e X.env x = pure x := by intro _; rfl) : GM X (.For tg e body [] pos :: rest) Z D (m.bd fun q => (foldR ff (s0 q) q.1).bd (g q)) := fun o q => by
  obtain ⟨y, q1, q2⟩ := Rs.bd_inv q
  obtain ⟨t, q3, q4⟩ := Rs.bd_inv q2
  obtain ⟨wi, pi, hw⟩ := src y q1
  refine goes_of (ps_for hp hc pi cg css hs) fun G H σ E => ?_
  refine hw G H σ _ E fun G1 H1 J s1 E1 W hl => ?_
  refine ⟨fun i m σ2 H2 => m = y.1.length - i ∧ i ≤ y.1.length ∧ ∃ s G2, foldR ff s (y.1.drop i) = .ok t ∧ Env ((Zt s).up G1) G2 H2 σ2, ⟨y.1.length, by simp, Nat.zero_le _, s0 y, G1, q3, (E1.weak (hb0 y) (hs0 y) (hc0 y)).upB (Same.refl _)⟩, ?_⟩
  rintro i m σ2 H2 ⟨rfl, hi, s, G2, hIs, E2⟩
  by_cases hlt : i < y.1.length
  · refine .inr ⟨W.go i G2 H2 E2.above E2.le hlt, fun σ' H' => ∃ s G', foldR ff s (y.1.drop (i + 1)) = .ok t ∧ Env ((Zt s).up G1) G' H' σ', fun σ' H' ⟨s', G', q1, q2⟩ => ⟨y.1.length - (i + 1), by omega, rfl, hlt, s', G', q1, q2⟩, fun v H3 hy => ?_⟩
    obtain ⟨x, G3, hx, e3, hr⟩ := W.yld i G2 H2 v H3 E2.above E2.le hlt hy
    obtain ⟨s', f1, f2⟩ := foldR_drop hx hIs
    obtain ⟨Z', g1, g2⟩ := turn G1 x s
    refine g1 G3 H3 σ2 v _ (E2.ext e3) hr fun σ' E' => ?_
    refine goes_mono (g2 s' f1) ?_ ?_ ?_ ?_ G3 H3 σ' E'
    · rintro σ H ⟨G, E⟩
      exact ⟨s', G, f2, E⟩
    · exact fun _ _ z => z.elim
    · exact fun _ _ z => z.elim
    · rintro σ H ⟨G, E⟩
      exact ⟨s', G, f2, E⟩
  · have e : i = y.1.length := by omega
    subst e
    rw [List.drop_length] at hIs
    cases hIs
    exact .inl ⟨W.stop _ G2 H2 E2.above E2.le (Nat.le_refl _), after y _ o q4 G2 H2 σ2 E2.dn⟩
/-! ### comprehensions -/
abbrev TurnS (X : Cx) (Z : PL.Ctx) (Zs : S → PL.Ctx) (scope : Scope) (own : List (Str × Nat)) (tg elt : Expr) {α β : Type} (r : Rel α) (s : Rel β) (fM : S → α → Rs (β × S)) : Prop := ∀ (B : Hp) (x : α) (t : S) (l : Addr) (ac : List β), ∃ (Z' : PL.Ctx) (Zx : S → PL.Ctx),
  (∀ st H C cl fp, EvGB (blkX X scope st H C cl fp) tg r x (own.map (·.2)) ((((Zs t).plus (.lst l s ac)).up B).wipe (own.map (·.2))) Z') ∧ (∀ st H C cl fp, EvS (blkX X scope st H C cl fp) elt Z' Zx s (fM t x)) ∧ ∀ u, (Zx u).b = ((Zs u).up B).b ∧ (Zx u).ce = (Zs u).ce ++ [.lst l s ac]
def LcS (X : Cx) (Z : PL.Ctx) (Zs : S → PL.Ctx) (scope : Scope) (own : List (Str × Nat)) (tg e elt : Expr) {β : Type} (s : Rel β) (m : Rs (List β × S)) : Prop := ∀ q, m = .ok q → ∃ wi, PI X tg e wi ∧
  ∀ G H σ (Q : VK), Env Z G H σ → (∀ G' H' o vs, Same G G' → Env (Zs q.2) G' H' σ → Z.b.H0 o = none → (∀ c ∈ (Zs q.2).ce, c.addr ≠ o) → G' o = none → H' o = some (.lst vs) → Paired (s.rd G') vs q.1 → q.1.length ≤ sizeLine → Q (.ref o) H') → tLc wi (gB X scope tg) tYes (eB X scope elt) (own.map (·.2)) σ H Q
theorem lcs_1 {scope : Scope} {own : List (Str × Nat)} {mx : Rs (List α × S)} {fM : S → α → Rs (β × S)} (src : EvIS X tg e Z Zs r mx) (hb : ∀ t, (Zs t).b = Z.b) (hsl : ∀ t u, (Zs t).sl = (Zs u).sl) (turn : TurnS X Z Zs scope own tg elt r s fM) : LcS X Z Zs scope own tg e elt s (mx.bd fun y => mapS fM y.2 y.1) := fun q hq => by
  obtain ⟨y, q1, q2⟩ := Rs.bd_inv hq
  obtain ⟨wi, pi, hw⟩ := src y q1
  obtain ⟨acc, st, a0, t0, a1, a2, t2, a3⟩ := mapS_acc q2
  refine ⟨wi, pi, fun G H σ Q E k => hw G H σ _ E fun G1 H1 J s1 E1 W hl D nD => ?_⟩
  have h0D : Z.b.H0 D = none := by rw [← hb y.2]; exact E1.ex.h.free nD
  have hGD : G1 D = none := E1.le.free nD
  have start : Env ((Zs y.2).plus (.lst D s [])) G1 (upd H1 D (.lst [])) σ := by
    have E2 := E1.ext (.newM (o := .lst []) E1.le nD)
    refine ⟨E2.ex, E2.ab, E2.sl, fun c hc => ?_, ?_⟩
    · rcases List.mem_append.mp hc with hc | hc
      · exact E2.ce c hc
      · rw [List.mem_singleton.mp hc]
        exact Cell.lst_ok (by show (Zs y.2).b.H0 D = none; rw [hb]; exact h0D) hGD upd_same .nil (Nat.zero_le _)
    · show (((Zs y.2).ce ++ [_]).map Cell.addr).Nodup
      rw [List.map_append]
      refine List.nodup_append.mpr ⟨E1.nd, by simp, fun u hu w hw z => ?_⟩
      obtain ⟨c, hc, hco⟩ := List.mem_map.mp hu
      have hw' : w = D := List.mem_singleton.mp hw
      obtain ⟨_, _, v, q3, _⟩ := E1.ce c hc
      rw [hco, z, hw', nD] at q3
      cases q3
  refine ⟨fun (i m : Nat) (H2 : Hp) => m = y.1.length - i ∧ i ≤ y.1.length ∧ ∃ G2, Env (((Zs (st i)).plus (.lst D s (acc i))).up G1) G2 H2 σ, ⟨y.1.length, by simp, Nat.zero_le _, G1, by rw [t0, a0]; exact start.upB (Same.refl _)⟩, ?_⟩
  rintro i m H2 ⟨rfl, hi, G2, E2⟩
  have hcell : ∀ (t : S) (ac : List β), (((Zs t).plus (.lst D s ac)).up G1).ce[(Zs t).ce.length]? = some (.lst D s ac) := fun t ac => by
    show ((Zs t).ce ++ [_])[(Zs t).ce.length]? = _
    rw [List.getElem?_append_right (Nat.le_refl _), Nat.sub_self]
    rfl
  by_cases hlt : i < y.1.length
  · refine .inr ⟨W.go i G2 H2 E2.above E2.le hlt, fun (H' : Hp) => ∃ G2, Env (((Zs (st (i + 1))).plus (.lst D s (acc (i + 1)))).up G1) G2 H' σ, fun H' h => ⟨y.1.length - (i + 1), by omega, rfl, hlt, h⟩, fun v H3 hy => ?_⟩
    obtain ⟨x, G3, hx, e3, hr⟩ := W.yld i G2 H2 v H3 E2.above E2.le hlt hy
    obtain ⟨w, w1, w2⟩ := a3 i x hx
    obtain ⟨Z', Zx, u1, u2, u3⟩ := turn G1 x (st i) D (acc i)
    intro st' H0 C cl fp
    have E3 := E2.ext e3
    refine u1 st' H0 C cl fp G3 H3 (L2.wipe σ (own.map (·.2))) v _ (E3.wipe _) hr fun σ2 Eb o2 => ?_
    refine ⟨Eq.trans o2 (wipe_idem σ _), ?_⟩
    have key : ∀ Q : Bool → Hp → Prop, Q true H3 → tYes σ2 H3 Q := fun _ h => h
    refine key _ ?_
    rw [if_pos rfl]
    intro st'' H0' C' cl' fp'
    refine u2 st'' H0' C' cl' fp' _ w1 G3 H3 σ2 _ Eb fun G5 H5 z s5 E5 hz => ?_
    obtain ⟨b5, c5⟩ := u3 (st (i + 1))
    -- the outer slots again
    have E6 : Env (((Zs (st (i + 1))).plus (.lst D s (acc i))).up G1) G5 H5 σ := by
      have hex := E5.ex
      have hab := E5.ab
      have hce := E5.ce
      have hnd := E5.nd
      rw [b5] at hex hab hce
      rw [c5] at hce hnd
      refine ⟨hex, hab, fun i' s' hi' => ?_, hce, hnd⟩
      have hi2 : (Zs (st (i + 1))).sl[i']? = some s' := hi'
      rw [hsl _ (st i)] at hi2
      obtain ⟨ov, g1, g2⟩ := E3.sl i' s' hi2
      exact ⟨ov, g1, Slot.ok_mono s5 g2⟩
    obtain ⟨_, _, vs, dH, dP, dL⟩ := Cell.ok_lst (E6.ce _ (List.mem_of_getElem? (hcell (st (i + 1)) (acc i))))
    refine ⟨vs, dH, ?_, G5, ?_⟩
    · have := plen dP
      have := a1 i
      omega
    · have E7 := E6.cell (hcell (st (i + 1)) (acc i)) (psnoc dP hz) (ys := acc i ++ [w]) (by have := a1 i; rw [List.length_append]; show _ + 1 ≤ _; omega)
      refine E7.is rfl rfl ?_
      show ((Zs (st (i + 1))).ce ++ [_]).set _ _ = (Zs (st (i + 1))).ce ++ [_]
      rw [List.set_append_right _ _ (Nat.le_refl _), Nat.sub_self, w2]
      rfl
  · have e : i = y.1.length := by omega
    subst e
    rw [t2, a2] at E2
    refine .inl ⟨W.stop _ G2 H2 E2.above E2.le (Nat.le_refl _), ?_⟩
    have E2' := E2.dn
    obtain ⟨_, dG, vs, dH, dP, dL⟩ := Cell.ok_lst (E2.ce _ (List.mem_of_getElem? (hcell q.2 q.1)))
    have hnd := E2.nd
    have hnd : (((Zs q.2).ce ++ [Cell.lst D s q.1]).map Cell.addr).Nodup := hnd
    rw [List.map_append] at hnd
    have hnd2 := List.nodup_append.mp hnd
    refine k G2 H2 D vs (s1.trans E2.above) ⟨E2'.ex, E2'.ab, E2'.sl, fun c hc => E2'.ce c (List.mem_append_left _ hc), hnd2.1⟩ h0D (fun c hc z => ?_) dG dH dP dL
    exact hnd2.2.2 _ (List.mem_map_of_mem hc) D (List.mem_singleton.mpr rfl) z
theorem efs_lc {scope : Scope} (own : List (Str × Nat)) {m : Rs (List β × S)} (hc : X.calm = true) (nd : X.N.Nodup) (h : LcS X Z Zs scope own tg e elt s m)
    (ok : blkC X.N X.env.scope scope own = true := by kernel_rfl) (hs : ∀ x, foldedSetIterable e X.env x = pure x := by intro _; rfl) : EvFS X (.ListComp elt [⟨tg, e, [], 0⟩] scope pos) Z Zs s m := fun q hq => by
  obtain ⟨wi, h1, h3⟩ := h q hq
  exact fun G H σ Q E k => toE (pe_lc (own := own) hc nd h1 (blkOk_by ok) pgB (fun _ _ _ _ _ => pts_nil) peB hs) (h3 G H σ Q E k)
/-! ### ends -/
theorem Env.toB {W : PL.Ctx} {G H0 H : Hp} {σ : L2.St} {j : Nat} {o : Addr} {ys : List τ} {R : Hp → V → Prop} {v : V} (E : Env W G H σ) (hj : W.ce[j]? = some (.lst o rt ys)) (h1 : W.b.H0 = hid H0 o) (hR : R G v) : RtB W.b.G0 H0 o rt ys R v H := by
  obtain ⟨c0, cG, ws, cH, cP, cL⟩ := Cell.ok_lst (E.ce _ (List.mem_of_getElem? hj))
  have ex := E.ex
  rw [h1] at ex
  exact ⟨G, ws, ex, cG, cH, cP, cL, hR⟩
theorem gm_retB (j : Nat) {o : Addr} {H0 : Hp} {ys : List τ} {z : O} (he : EvE X e Z r x) (hj : Z.ce[j]? = some (.lst o rt ys)) (hrt : (D z).rt = RtB Z.b.G0 H0 o rt ys (fun G v => r.rd G v x) := by rfl) (h1 : Z.b.H0 = hid H0 o := by rfl) : GM X (.Return (some e) pos :: rest) Z D (.ok z) := fun o' q => by
  cases q
  exact goes_ret he fun G H v σ E h => by rw [hrt]; exact E.toB hj h1 h
theorem gm_retBS (j : Nat) {o : Addr} {H0 : Hp} {cont : S → List τ} {m : Rs (α × S)} {g : α × S → O} (he : EvS X e Z Zs r m) (hj : ∀ t, (Zs t).ce[j]? = some (.lst o rt (cont t))) (hrt : ∀ q t, (D (g q)).rt = RtB (Zs t).b.G0 H0 o rt (cont q.2) (fun G v => r.rd G v q.1) := by intro _ _; rfl) (h1 : ∀ t, (Zs t).b.H0 = hid H0 o := by intro _; rfl) : GM X (.Return (some e) pos :: rest) Z D (m.bd fun q => .ok (g q)) := fun o' q => by
  obtain ⟨y, q1, q2⟩ := Rs.bd_inv q
  cases q2
  exact goes_of (ps_ret ce) fun G H σ E => he y q1 G H σ _ E fun G1 H1 v s1 E1 r1 => by rw [hrt y y.2]; exact E1.toB (hj y.2) (h1 y.2) r1
/-! ### items that are stored, appended -/
theorem goes_setI (i j : Nat) {o : Addr} {D : Ends} {xs : List α} {m : Int} {l : Nat} {px pos' : Pos} (he : EvE X e Z r x) (hb : EvE X b Z PL.rI m) (hz : Z.sl[i]? = some (.val rRef o)) (hj : Z.ce[j]? = some (.lst o r xs)) (hm : ixN xs.length m = some l)
    (h : Goes X rest (Z.setC (Z.ce.set j (.lst o r (xs.set l x)))) D) (hN : X.N[i]? = some n := by rfl) (hv : Vis X.env.scope n := by first | exact Or.inl rfl | exact Or.inr (Or.inl rfl) | exact Or.inr (Or.inr rfl))
    (hd : (n == ("__debug__" : Str)) = false := by decide) (hcd : (n == ("__classdict__" : Str)) = false := by decide)
    (ha : ∀ v, assign (.Subscript (.Name n px) b pos') X.env v = (do
      let ov ← holding [v] (eval (.Name n px) X.env)
      let iv ← holding [v, ov] (eval b X.env)
      standAt pos'
      holding [v, ov, iv] (setItem ov iv v)
      release [v, ov, iv] []) := by intro _; rfl)
    (hs : swapsWithSole [.Subscript (.Name n px) b pos'] e pos.line X.env = pure false := by rfl) (hw : swappedStores [.Subscript (.Name n px) b pos'] e X.env = pure none := by rfl)
    (h1 : (assignEach [.Subscript (.Name n px) b pos'] X.env).map (·.2) = [assign (.Subscript (.Name n px) b pos') X.env] := by rfl) : Goes X (.Assign [.Subscript (.Name n px) b pos'] e pos :: rest) Z D :=
  goes_of (ps_asg ce (pg_sub (pe_var hN hv hd hcd) ce set_list ha) hs hw h1) fun G H σ E => he G H σ _ E fun G1 H1 v e1 r1 => by
    have E1 := E.ext e1
    obtain ⟨w, g1, g2⟩ := E1.get hz
    obtain rfl : w = .ref o := g2
    refine ⟨.ref o, g1, hb G1 H1 σ _ E1 fun G2 H2 u e2 r2 => ?_⟩
    have E2 := E1.ext e2
    obtain ⟨c0, cG, vs, cH, cP, cL⟩ := Cell.ok_lst (E2.ce _ (List.mem_of_getElem? hj))
    exact ⟨o, vs, m, l, rfl, r2, cH, by rw [plen cP]; exact hm, h G2 _ σ (E2.cell hj (pset (r.mono e2.g r1) l cP) (by rw [List.length_set]; exact cL))⟩
theorem gm_setIM (i j : Nat) {o : Addr} {xs : List α} {m1 : Rs α} {m2 : Rs Int} {f : List α → Rs O} {px pos' : Pos} (he : EvM X e Z r m1) (hb : EvM X b Z PL.rI m2) (hz : Z.sl[i]? = some (.val rRef o)) (hj : Z.ce[j]? = some (.lst o r xs))
    (h : ∀ ys, GM X rest (Z.setC (Z.ce.set j (.lst o r ys))) D (f ys)) (hN : X.N[i]? = some n := by rfl) (hv : Vis X.env.scope n := by first | exact Or.inl rfl | exact Or.inr (Or.inl rfl) | exact Or.inr (Or.inr rfl))
    (hd : (n == ("__debug__" : Str)) = false := by decide) (hcd : (n == ("__classdict__" : Str)) = false := by decide)
    (ha : ∀ v, assign (.Subscript (.Name n px) b pos') X.env v = (do
      let ov ← holding [v] (eval (.Name n px) X.env)
      let iv ← holding [v, ov] (eval b X.env)
      standAt pos'
      holding [v, ov, iv] (setItem ov iv v)
      release [v, ov, iv] []) := by intro _; rfl)
    (hs : swapsWithSole [.Subscript (.Name n px) b pos'] e pos.line X.env = pure false := by rfl) (hw : swappedStores [.Subscript (.Name n px) b pos'] e X.env = pure none := by rfl)
    (h1 : (assignEach [.Subscript (.Name n px) b pos'] X.env).map (·.2) = [assign (.Subscript (.Name n px) b pos') X.env] := by rfl) : GM X (.Assign [.Subscript (.Name n px) b pos'] e pos :: rest) Z D (m1.bd fun x => m2.bd fun l => (setR xs l x).bd f) := fun o' q => by
  obtain ⟨x, q1, q2⟩ := Rs.bd_inv q
  obtain ⟨l, q3, q4⟩ := Rs.bd_inv q2
  obtain ⟨ys, q5, q6⟩ := Rs.bd_inv q4
  unfold setR at q5
  cases el : ixN xs.length l with
  | none => rw [el] at q5; cases q5
  | some l' =>
    rw [el] at q5
    cases q5
    exact goes_setI i j (he x q1) (hb l q3) hz hj el (h _ o' q6) hN hv hd hcd ha hs hw h1
end
end PL

/-! Promises of defs that change the list handed in first; join. -/
namespace PL
open PySem PySem.Spec PyProof.Rows L2 TL
def joinR0 (s : Text) (xs : List Text) : Text := joinL s xs
noncomputable def joinR (s : Text) (xs : List Text) : Rs Text := .gd ((xs.map (·.length)).sum + xs.length * s.length ≤ 16777216) (.ok (joinR0 s xs))
theorem tl_mkS (x : Text) : tl (mkS x) = x := tx_mk x
theorem join_mk (s : Text) (xs : List Text) : Txt.join (mkS s) (xs.map mkS) = mkS (joinR0 s xs) := by
  have h : tl (Txt.join (mkS s) (xs.map mkS)) = joinR0 s xs := by
    rw [join_eq, tl_join, tl_mkS, List.map_map, show (tl ∘ mkS) = id from funext tl_mkS, List.map_id]
    rfl
  rw [← h]
  exact (mk_tx _).symm
theorem joinL_len (s : Text) : ∀ xs : List Text, (joinL s xs).length ≤ (xs.map (·.length)).sum + xs.length * s.length
  | [] => Nat.zero_le _
  | [x] => by simp [joinL]
  | x :: y :: r => by
    have ih := joinL_len s (y :: r)
    show (x ++ (s ++ joinL s (y :: r))).length ≤ x.length + ((y :: r).map (·.length)).sum + ((y :: r).length + 1) * s.length
    rw [List.length_append, List.length_append, Nat.succ_mul]
    omega
theorem joinL_ok {s : Text} (hs : ∀ c ∈ s, c < 1114112) : ∀ {xs : List Text}, (∀ x ∈ xs, ∀ c ∈ x, c < 1114112) → ∀ c ∈ joinL s xs, c < 1114112
  | [], _, c, h => by cases h
  | [x], hx, c, h => hx x (List.mem_singleton.mpr rfl) c h
  | x :: y :: r, hx, c, h => by
    rcases List.mem_append.mp h with h | h
    · exact hx x (List.mem_cons_self ..) c h
    · rcases List.mem_append.mp h with h | h
      · exact hs c h
      · exact joinL_ok hs (fun z hz => hx z (List.mem_cons_of_mem _ hz)) c h
theorem rdC_map {G : Hp} : ∀ {vs : List V} {xs : List Text}, Paired (rC.rd G) vs xs → vs = (xs.map mkS).map V.str ∧ ∀ x ∈ xs, okT x
  | _, _, .nil => ⟨rfl, fun _ h => by cases h⟩
  | _, _, .cons h t => by
    obtain ⟨h1, h2⟩ := rdC_map t
    refine ⟨by rw [h1, show _ = V.str _ from h.1]; rfl, fun x hx => ?_⟩
    rcases List.mem_cons.mp hx with rfl | hx
    · exact h.2
    · exact h2 x hx
section
variable {X : Cx} {Z : PL.Ctx} {α β S ζ O τ : Type} {r : Rel α} {rt : Rel τ} {pos p apos : Pos} {a b e : Expr} {es : List Expr} {n v : Str} {k : Nat} {Zs : S → PL.Ctx} {Zl : List τ → PL.Ctx} {t : Text} {xs : List Text}
theorem join_core {G H : Hp} {v w : V} {Q : VK} (sm : SmF G H) (h1 : rC.rd G v t) (h2 : (rL X.K rC).rd G w xs) (hl : (xs.map (·.length)).sum + xs.length * t.length ≤ 16777216) (q : ∀ u, rC.rd G u (joinR0 t xs) → Q u H) :
    ∃ a p, ∃ ys : List Str, v = .str a ∧ [w] = [.ref p] ∧ (SqL X.K H p (ys.map V.str) ∨ SqT X.K H p (ys.map V.str)) ∧ (ys.map (·.length)).sum + ys.length * a.length ≤ 16777216 ∧ Q (.str (Txt.join a ys)) H := by
  obtain ⟨rfl, o1⟩ := h1
  obtain ⟨l, us, rfl, g1, g2, _⟩ := h2
  obtain ⟨e1, e2⟩ := rdC_map g2
  have el : (xs.map mkS).map (·.length) = xs.map (·.length) := by
    rw [List.map_map]
    exact List.map_congr_left fun x _ => mkS_len x
  refine ⟨mkS t, l, xs.map mkS, rfl, rfl, .inl (by rw [← e1]; exact sm.seq g1), by rw [el, List.length_map, mkS_len]; exact hl, ?_⟩
  rw [join_mk]
  refine q _ ⟨rfl, ?_, joinL_ok o1.2 fun x hx => (e2 x hx).2⟩
  rw [sizeLine_eq]
  exact Nat.le_trans (joinL_len t xs) hl
theorem es_join {m1 : Rs (Text × S)} {m2 : Text × S → Rs (List Text × S)} (ha : EvS X a Z Zs rC m1) (hb : ∀ q, EvS X b (Zs q.2) Zs (rL X.K rC) (m2 q)) (hs : starEach [b] X.env = [(false, eval b X.env)] := by rfl) (hbase : attributeBase a "join" X.env (eval a X.env) = eval a X.env := by rfl) (hline : (apos.endLine == pos.line) = true := by rfl) :
    EvS X (.Call (.Attribute a "join" apos) [b] [] pos) Z Zs rC (m1.bd fun x => (m2 x).bd fun y => (joinR x.1 y.1).bd fun z => .ok (z, y.2)) := fun q hq G H σ Q E k => by
  obtain ⟨x, g1, g2⟩ := Rs.bd_inv hq
  obtain ⟨y, g3, g4⟩ := Rs.bd_inv g2
  obtain ⟨z, g5, g6⟩ := Rs.bd_inv g4
  cases g6
  obtain ⟨hl, g5⟩ := Rs.gd_inv g5
  cases g5
  exact toE (pe_join ce ce hs hbase hline) (ha x g1 G H σ _ E fun G1 H1 v s1 E1 h1 => ⟨⟨_, h1.1⟩, hb x y g3 G1 H1 σ _ E1 fun G2 H2 w s2 E2 h2 => join_core (X := X) E2.le h1 h2 hl fun u hu => k G2 H2 u (s1.trans s2) E2 hu⟩)
def B2 {ζ τ : Type} {α2 : Type} (r2 : Rel α2) (rz : Rel ζ) (f : List τ → α2 → Rs (ζ × List τ)) : List Slot → List τ → List τ → (Hp → V → Prop) → Prop := fun ss xs ys R => ∃ x2 z, ss = [.val r2 x2] ∧ f xs x2 = .ok (z, ys) ∧ R = fun G v => rz.rd G v z
theorem es_b2 (i j : Nat) {o : Addr} {px : Pos} {α2 : Type} {r2 : Rel α2} {x2 : α2} {rz : Rel ζ} {f : List τ → α2 → Rs (ζ × List τ)} (t : List τ) (C : CallOk X.prog X.w X.K X.mg X.base n k (spB rt (B2 r2 rz f))) (hr : Room k X.A) (ha : EvA X es Z [.val r2 x2]) (hz : Z.sl[i]? = some (.val rRef o)) (hj : Z.ce[j]? = some (.lst o rt t)) (hset : ∀ u, Zl u = Z.setC (Z.ce.set j (.lst o rt u)) := by intro _; rfl)
    (hg : Gl X n := by rfl) (hdb : (n == ("__debug__" : Str)) = false := by decide) (he : starEach (.Name v px :: es) X.env = (false, eval (.Name v px) X.env) :: starEach es X.env := by rfl) (hpl : (backTo pos (starEach es X.env)).any (·.1) = false := by rfl)
    (hN : X.N[i]? = some v := by rfl) (hv : Vis X.env.scope v := by first | exact Or.inl rfl | exact Or.inr (Or.inl rfl) | exact Or.inr (Or.inr rfl)) (hd : (v == ("__debug__" : Str)) = false := by decide) (hcd : (v == ("__classdict__" : Str)) = false := by decide) : EvS X (.Call (.Name n p) (.Name v px :: es) [] pos) Z Zl rz (f t x2) := es_callB i j t C hr ha (fun z ys h => ⟨_, ⟨x2, z, rfl, h, rfl⟩, fun _ _ h => h⟩) hz hj hset hg hdb he hpl hN hv hd hcd
def B3 {ζ τ : Type} {α2 : Type} {α3 : Type} (r2 : Rel α2) (r3 : Rel α3) (rz : Rel ζ) (f : List τ → α2 → α3 → Rs (ζ × List τ)) : List Slot → List τ → List τ → (Hp → V → Prop) → Prop := fun ss xs ys R => ∃ x2 x3 z, ss = [.val r2 x2, .val r3 x3] ∧ f xs x2 x3 = .ok (z, ys) ∧ R = fun G v => rz.rd G v z
def B6 {ζ τ : Type} {α2 : Type} {α3 : Type} {α4 : Type} {α5 : Type} {α6 : Type} (r2 : Rel α2) (r3 : Rel α3) (r4 : Rel α4) (r5 : Rel α5) (r6 : Rel α6) (rz : Rel ζ) (f : List τ → α2 → α3 → α4 → α5 → α6 → Rs (ζ × List τ)) : List Slot → List τ → List τ → (Hp → V → Prop) → Prop := fun ss xs ys R => ∃ x2 x3 x4 x5 x6 z, ss = [.val r2 x2, .val r3 x3, .val r4 x4, .val r5 x5, .val r6 x6] ∧ f xs x2 x3 x4 x5 x6 = .ok (z, ys) ∧ R = fun G v => rz.rd G v z
end
end PL

namespace PL
open PySem PySem.Spec PyProof.Rows L2
/-! ### walks over dicts: the dict is locked meanwhile -/
def EvP (X : Cx) (e : Expr) (Z : PL.Ctx) {α : Type} (r : Rel α) (x : α) : Prop := ∀ G H σ, Env Z G H σ → ∃ v, r.rd G v x ∧ ∀ H', SmF G H' → wE X e σ H' (fun v' H'' => v' = v ∧ H'' = H')
structure WalksL {α : Type} (d : Addr) (u : HO) (J : It) (G : Hp) (r : Rel α) (xs : List α) : Prop where
  stop : ∀ i G1 H, Same G G1 → SmF G1 H → H d = some u → xs.length ≤ i → J.stop i H
  go : ∀ i G1 H, Same G G1 → SmF G1 H → H d = some u → i < xs.length → J.go i H
  yld : ∀ i G1 H v H', Same G G1 → SmF G1 H → i < xs.length → J.yld i H v H' → ∃ x G2, xs[i]? = some x ∧ Ext G1 H G2 H' ∧ r.rd G2 v x
def EvIL (X : Cx) (tg iter : Expr) (Z : PL.Ctx) {α : Type} (r : Rel α) (xs : List α) : Prop :=
  ∃ wi : TI, PI X tg iter wi ∧ ∀ G H σ, Env Z G H σ → ∃ d us, G d = some (.dK us) ∧ ∀ od H1 R, SmF G H1 → H1 d = some (.frz od (.dK us)) → (∀ J, WalksL d (.frz od (.dK us)) J G r xs → R J H1) → wi σ H1 R
section
variable {X : Cx} {Z : PL.Ctx} {α β γ : Type} {r : Rel α} {x : α} {pos p : Pos} {a b c e tg : Expr}
theorem wE_mono {σ : L2.St} {H : Hp} {Q Q' : VK} (h : ∀ v H1, Q v H1 → Q' v H1) (w : wE X e σ H Q) : wE X e σ H Q' := ⟨fun pins s I => thn (w.run pins s I) fun u s1 ⟨v, H1, I1, rv, q⟩ => ⟨v, H1, I1, rv, h v H1 q⟩⟩
theorem ep_v (i : Nat) {n : Str} (hz : Z.sl[i]? = some (.val r x) := by rfl) (hN : X.N[i]? = some n := by rfl) (hv : Vis X.env.scope n := by first | exact Or.inl rfl | exact Or.inr (Or.inl rfl) | exact Or.inr (Or.inr rfl))
    (hd : (n == ("__debug__" : Str)) = false := by decide) (hcd : (n == ("__classdict__" : Str)) = false := by decide) : EvP X (.Name n pos) Z r x := fun G H σ E => by
  obtain ⟨v, h1, h2⟩ := E.get hz
  exact ⟨v, h2, fun H' _ => toE (pe_var hN hv hd hcd) ⟨v, h1, rfl, rfl⟩⟩
theorem eil_keys {kvs : List (Text × α)} (h : EvP X e Z (rD r) kvs) : EvIL X tg e Z rC (kvs.map (·.1)) := ⟨_, pi_keys ce, fun G H σ E => by
  obtain ⟨v, ⟨d, us, rfl, h2, h3, h4, h5⟩, w⟩ := h G H σ E
  refine ⟨d, us, h2, fun od H1 R s1 hl k => wE_mono (fun v' H2 q => ?_) (w H1 s1)⟩
  obtain ⟨rfl, rfl⟩ := q
  refine ⟨d, od, rfl, .inl ⟨us, hl, k _ ⟨fun i G1 H2 _ _ q hi => ⟨q, by rw [plen h3]; simpa using hi⟩, fun i G1 H2 _ _ q hi => ⟨q, by rw [plen h3]; simpa using hi⟩, fun i G1 H2 v H3 g1 s2 hi hy => ?_⟩⟩⟩
  obtain ⟨rfl, k0, v0, q1, rfl⟩ := hy
  obtain ⟨y, q2, q3, q4, q5⟩ := pget h3 q1
  refine ⟨y.1, _, by rw [List.getElem?_map, q2]; rfl, .refl s2, ?_⟩
  cases q3
  exact ⟨rfl, q5⟩⟩
/-! ### the lock -/
def lkB (b : Bs) (d : Addr) (us : List (Key × V)) (od : Obj) : Bs := ⟨upd b.G0 d (.dK us), upd b.H0 d (.frz od (.dK us)), b.ab⟩
theorem Env.lockd {G H : Hp} {σ : L2.St} {d : Addr} {us : List (Key × V)} {od : Obj} (E : Env Z G H σ) (hd : G d = some (.dK us)) : Env ⟨lkB Z.b d us od, Z.sl, Z.ce⟩ G (upd H d (.frz od (.dK us))) σ := by
  have ne : ∀ c ∈ Z.ce, c.addr ≠ d := fun c hc z => by
    have := (E.ce c hc).2.1
    rw [z, hd] at this; cases this
  refine ⟨⟨fun b o q => ?_, fun b o q => ?_, fun b o q => ?_, fun b q1 q2 => ?_⟩, E.ab, E.sl, fun c hc => ?_, E.nd⟩
  · by_cases hb : b = d
    · subst hb; simp only [lkB, upd_same] at q; cases q; exact hd
    · simp only [lkB, upd_ne hb] at q; exact E.ex.g b o q
  · by_cases hb : b = d
    · subst hb; rw [hd] at q; cases q; exact .inr ⟨od, us, rfl, upd_same⟩
    · rw [upd_ne hb]; exact E.ex.s b o q
  · by_cases hb : b = d
    · subst hb; simp only [lkB, upd_same] at q ⊢; exact q
    · simp only [lkB, upd_ne hb] at q ⊢; exact E.ex.h b o q
  · by_cases hb : b = d
    · subst hb; simp only [lkB, upd_same] at q2; cases q2
    · simp only [lkB, upd_ne hb] at q1 q2; exact E.ex.n b q1 q2
  · obtain ⟨h0, h1, u, h2, h3⟩ := E.ce c hc
    exact ⟨by simp only [lkB, upd_ne (ne c hc)]; exact h0, h1, u, by rw [upd_ne (ne c hc)]; exact h2, h3⟩
theorem Env.unlockd {W : PL.Ctx} {G H G' H' : Hp} {σ σ' : L2.St} {d : Addr} {us : List (Key × V)} {od : Obj} {w : HO} (E : Env Z G H σ) (hd : G d = some (.dK us)) (hw : H d = some w) (E' : Env W G' H' σ') (hb : W.b = lkB Z.b d us od) : Env ⟨Z.b, W.sl, W.ce⟩ G' (upd H' d w) σ' := by
  have e0 := E'.ex
  have ea := E'.ab
  have ec := E'.ce
  rw [hb] at e0 ea ec
  have gd : G' d = some (.dK us) := e0.g d _ (by simp only [lkB, upd_same])
  have ne : ∀ c ∈ W.ce, c.addr ≠ d := fun c hc z => by
    have := (ec c hc).2.1
    rw [z, gd] at this; cases this
  refine ⟨⟨fun b o q => ?_, fun b o q => ?_, fun b o q => ?_, fun b q1 q2 => ?_⟩, ea, E'.sl, fun c hc => ?_, E'.nd⟩
  · by_cases hbd : b = d
    · subst hbd
      have := E.ex.g b o q
      rw [hd] at this; cases this; exact gd
    · exact e0.g b o (by simp only [lkB, upd_ne hbd]; exact q)
  · by_cases hbd : b = d
    · subst hbd
      rw [gd] at q; cases q
      rw [upd_same]
      rcases E.ex.s b _ hd with z | ⟨o', us', z1, z⟩
      · rw [hw] at z; cases z; exact .inl rfl
      · rw [hw] at z; cases z; exact .inr ⟨o', us', z1, rfl⟩
    · rw [upd_ne hbd]; exact e0.s b o q
  · by_cases hbd : b = d
    · subst hbd
      have := E.ex.h b o q
      rw [hw] at this; cases this; exact upd_same
    · rw [upd_ne hbd]; exact e0.h b o (by simp only [lkB, upd_ne hbd]; exact q)
  · by_cases hbd : b = d
    · subst hbd
      have := E.ex.n b q1 q2
      rw [hd] at this; cases this
    · exact e0.n b (by simp only [lkB, upd_ne hbd]; exact q1) (by simp only [lkB, upd_ne hbd]; exact q2)
  · obtain ⟨h0, h1, u, h2, h3⟩ := ec c hc
    exact ⟨by simp only [lkB, upd_ne (ne c hc)] at h0; exact h0, h1, u, by rw [upd_ne (ne c hc)]; exact h2, h3⟩
end
section
variable {X : Cx} {Z : PL.Ctx} {α β S ζ O : Type} {r : Rel α} {pos : Pos} {e tg : Expr} {D : O → Ends} {body rest : List Stmt}
theorem ps_lockO {st : Stmt} {t : TS} (h : PS X st t) : PS X st (fun D σ H => tLock t D σ H ∨ t D σ H) := ⟨fun pins s σ H D I hw => hw.elim (fun q => (ps_lock h).run pins s σ H D I q) fun q => h.run pins s σ H D I q⟩
theorem subS_refl : ∀ l : List Slot, SubS l l
  | [] => .nil
  | _ :: l => .same (subS_refl l)
theorem upd_id {H : Hp} {d : Addr} {u : HO} (h : H d = some u) : upd H d u = H := funext fun b => by
  by_cases hb : b = d
  · subst hb; rw [upd_same, h]
  · rw [upd_ne hb]
theorem gm_forD {xs : List α} {f : S → α → Rs S} {g : S → Rs O} (Zs : Hp → Hp → S → PL.Ctx) (s0 : S) (hc : X.calm = true) (hp : PassesOwn (model X.prog X.w) X.A X.env X.xe) (src : EvIL X tg e Z r xs)
    (hb : ∀ G H s, (Zs G H s).b = ⟨G, H, Z.b.ab⟩) (hv : ∀ G H G' H' s, (Zs G H s).sl = (Zs G' H' s).sl ∧ (Zs G H s).ce = (Zs G' H' s).ce) (hs0 : SubS Z.sl (Zs Z.b.G0 Z.b.H0 s0).sl) (hc0 : Z.ce = (Zs Z.b.G0 Z.b.H0 s0).ce)
    (turn : ∀ (G H B : Hp) (x : α) (s : S), ∃ Z', EvG X tg r x ((Zs G H s).up B) Z' ∧ GM X body Z' (DF (Zs G H) B) (f s x)) (after : ∀ s, GM X rest (Zs Z.b.G0 Z.b.H0 s) D (g s))
    (hs : ∀ x, foldedSetIterable e X.env x = pure x := by intro _; rfl) : GM X (.For tg e body [] pos :: rest) Z D ((foldR f s0 xs).bd g) := fun o q => by
  obtain ⟨t, q1, q2⟩ := Rs.bd_inv q
  obtain ⟨wi, pi, hw⟩ := src
  refine goes_of (ps_lockO (ps_for hp hc pi cg css hs)) fun G H σ E => ?_
  obtain ⟨d, us, hd, hw⟩ := hw G H σ E
  have key : ∀ od w (D' : Ends), H d = some w → (∀ σ' H', H' d = some (.frz od (.dK us)) → wSs X rest (D o) σ' (upd H' d w) → D'.nx σ' H') → tFor wi (wG X tg) (wSs X body) D' σ (upd H d (.frz od (.dK us))) := by
    intro od w D' hwd hn
    have EL : Env ⟨lkB Z.b d us od, Z.sl, Z.ce⟩ G (upd H d (.frz od (.dK us))) σ := E.lockd hd
    refine hw od _ _ EL.le upd_same fun J W => ?_
    have E0 : Env (Zs (upd Z.b.G0 d (.dK us)) (upd Z.b.H0 d (.frz od (.dK us))) s0) G (upd H d (.frz od (.dK us))) σ := EL.weak (hb _ _ _).symm (by rw [(hv (upd Z.b.G0 d (.dK us)) (upd Z.b.H0 d (.frz od (.dK us))) Z.b.G0 Z.b.H0 s0).1]; exact hs0) (by rw [(hv (upd Z.b.G0 d (.dK us)) (upd Z.b.H0 d (.frz od (.dK us))) Z.b.G0 Z.b.H0 s0).2]; exact hc0)
    have lk : ∀ {s : S} {G2 H2 : Hp} {σ2 : L2.St}, Env (Zs (upd Z.b.G0 d (.dK us)) (upd Z.b.H0 d (.frz od (.dK us))) s) G2 H2 σ2 → H2 d = some (.frz od (.dK us)) := fun {s G2 H2 σ2} E2 => E2.ex.h d _ (by rw [hb]; exact upd_same)
    refine ⟨fun i m σ2 H2 => m = xs.length - i ∧ i ≤ xs.length ∧ ∃ s G2, foldR f s (xs.drop i) = .ok t ∧ Env ((Zs (upd Z.b.G0 d (.dK us)) (upd Z.b.H0 d (.frz od (.dK us))) s).up G) G2 H2 σ2, ⟨xs.length, by simp, Nat.zero_le _, s0, G, q1, E0.upB (Same.refl _)⟩, ?_⟩
    rintro i m σ2 H2 ⟨rfl, hi, s, G2, hIs, E2⟩
    by_cases hlt : i < xs.length
    · refine .inr ⟨W.go i G2 H2 E2.above E2.le (lk E2.dn) hlt, LN (Zs (upd Z.b.G0 d (.dK us)) (upd Z.b.H0 d (.frz od (.dK us)))) (fun i s => foldR f s (xs.drop i) = .ok t) G (i + 1), fun σ' H' ⟨s', G', z1, z2⟩ => ⟨xs.length - (i + 1), by omega, rfl, hlt, s', G', z1, z2⟩, fun v H3 hy => ?_⟩
      obtain ⟨x, G3, hx, e3, hr⟩ := W.yld i G2 H2 v H3 E2.above E2.le hlt hy
      obtain ⟨s', h1, h2⟩ := foldR_drop hx hIs
      obtain ⟨Z', g1, g2⟩ := turn (upd Z.b.G0 d (.dK us)) (upd Z.b.H0 d (.frz od (.dK us))) G x s
      exact g1 G3 H3 σ2 v _ (E2.ext e3) hr fun σ' E' => goes_mono (D' := { D' with nx := LN (Zs (upd Z.b.G0 d (.dK us)) (upd Z.b.H0 d (.frz od (.dK us)))) (fun i s => foldR f s (xs.drop i) = .ok t) G (i + 1), ct := LN (Zs (upd Z.b.G0 d (.dK us)) (upd Z.b.H0 d (.frz od (.dK us)))) (fun i s => foldR f s (xs.drop i) = .ok t) G (i + 1), bk := D'.nx }) (g2 s' h1) (fun σ H ⟨G, E⟩ => ⟨s', G, h2, E⟩) (fun _ _ z => z.elim) (fun _ _ z => z.elim) (fun σ H ⟨G, E⟩ => ⟨s', G, h2, E⟩) G3 H3 σ' E'
    · have ei : i = xs.length := by omega
      subst ei
      refine .inl ⟨W.stop _ G2 H2 E2.above E2.le (lk E2.dn) (Nat.le_refl _), hn _ _ (lk E2.dn) ?_⟩
      rw [List.drop_length] at hIs
      obtain rfl : s = t := by cases hIs; rfl
      have E3 := E.unlockd hd hwd E2.dn (hb _ _ _)
      exact after s o q2 G2 _ σ2 (E3.weak (hb _ _ _).symm (by rw [(hv (upd Z.b.G0 d (.dK us)) (upd Z.b.H0 d (.frz od (.dK us))) Z.b.G0 Z.b.H0 s).1]; exact subS_refl _) (hv _ _ _ _ s).2)
  rcases E.le d _ hd with z | ⟨od, us', z1, z⟩
  · exact .inl ⟨d, _, z, trivial, fun od => key od _ _ z fun σ' H' l1 l2 => ⟨l1, l2⟩⟩
  · cases z1
    refine .inr ?_
    have := key od _ { nx := wSs X rest (D o), rt := (D o).rt, bk := (D o).bk, ct := (D o).ct } z fun σ' H' l1 l2 => by rw [upd_id l1] at l2; exact l2
    rw [upd_id z] at this
    exact this
end
end PL

namespace PL
open PySem PySem.Spec PyProof.Rows L2 PySem.W
/-! ### sorted, by what the things are as data -/
theorem each_of_paired {R : V → β → Prop} : ∀ {us : List V} {vs : List Value} {bs : List β}, Vals us vs → Paired R us bs → EachIs (fun v b => ∃ x, RelV x v ∧ R x b) vs bs
  | _, _, _, .nil, .nil => .nil
  | _, _, _, .cons r t, .cons h q => .cons ⟨_, r, h⟩ (each_of_paired t q)
theorem paired_of_each {R : V → β → Prop} : ∀ {vs : List Value} {bs : List β}, EachIs (fun v b => ∃ x, RelV x v ∧ R x b) vs bs → ∃ us, Vals us vs ∧ Paired R us bs
  | _, _, .nil => ⟨[], .nil, .nil⟩
  | _, _, .cons ⟨x, r, h⟩ t => let ⟨us, r', h'⟩ := paired_of_each t; ⟨x :: us, .cons r r', .cons h h'⟩
structure OrdD {α : Type} {K : PySem.W.Frag} {r : Rel α} {n : Nat} (d : DataR K r n) : Prop where
  al : ∀ x y, alike (d.toD x) (d.toD y) = true
  so : (∀ x, ∃ a q, d.toD x = .tuple (a :: q)) ∨ ∀ x, d.toD x ≠ .none ∧ ∀ xs, d.toD x ≠ .tuple xs
theorem OrdD.sortable {α : Type} {K : PySem.W.Frag} {r : Rel α} {n : Nat} {d : DataR K r n} (o : OrdD d) (xs : List α) : Sortable (xs.map d.toD) := o.so.elim (fun h => Sortable.tuples h) fun h => Sortable.others h
def ordLt {α : Type} {K : PySem.W.Frag} {r : Rel α} {n : Nat} (d : DataR K r n) (x y : α) : Bool := dataLt (d.toD x) (d.toD y)
def srtD {α : Type} {K : PySem.W.Frag} {r : Rel α} {n : Nat} (d : DataR K r n) (xs : List α) : List α := xs.mergeSort fun a b => !ordLt d b a
theorem srtD_eq {α : Type} {K : PySem.W.Frag} {r : Rel α} {n : Nat} (d : DataR K r n) (xs : List α) : xs.mergeSort (dataLe false d.toD) = srtD d xs := rfl
theorem srtD_perm {α : Type} {K : PySem.W.Frag} {r : Rel α} {n : Nat} (d : DataR K r n) (xs : List α) : (srtD d xs).Perm xs := List.mergeSort_perm _ _
theorem srtD_len {α : Type} {K : PySem.W.Frag} {r : Rel α} {n : Nat} (d : DataR K r n) (xs : List α) : (srtD d xs).length = xs.length := (srtD_perm d xs).length_eq
def rSortedD {β : Type} (K : PySem.W.Frag) (enc : β → PyData) : List V → Hp → VK → Prop := fun vs H Q => ∃ (a : Addr) (us : List V) (bs : List β) (R : V → β → Prop), vs = [V.ref a] ∧ SqL K H a us ∧ Paired (fun v b => R v b ∧ Dp K H v (enc b)) us bs ∧ bs.length ≤ sizeLine ∧
  AllAlike (bs.map enc) ∧ Sortable (bs.map enc) ∧ (∀ b ∈ bs, (enc b).depth ≤ 60) ∧ ∀ (out : List V) (p : Addr), Paired R out (bs.mergeSort (dataLe false enc)) → H p = none → Q (.ref p) (upd H p (.lst out))
theorem cr_sortedD {X : Cx} {β : Type} (hu : X.A.units + 64 < cLine) (enc : β → PyData) : CallR X (.builtin "sorted") (rSortedD X.K enc) := by
  intro pins s σ H vs us Q I r h
  obtain ⟨a, xs, bs, R, rfl, hs, hp, hl, hal, hk, hd, q⟩ := h
  obtain ⟨its, rv, hli, hz⟩ := I.list hs
  rw [Vals.ref1 r]
  have e := each_of_paired rv hp
  have e1 : EachIs (fun v b => ∃ x, RelV x v ∧ R x b) its bs := e.mono fun _ _ ⟨x, h1, h2⟩ => ⟨x, h1, h2.1⟩
  have e2 : EachIs (fun v b => ∃ as, Reads s.heap v (enc b) as) its bs := e.mono fun _ _ ⟨x, h1, h2⟩ => Dp.reads I _ x _ h2.2 h1
  refine sorted_data hli.isList e1 e2 hal hk hl (fun b hb => by have := hd b hb; omega) fun out ho eo => ?_
  obtain ⟨ws, r', h'⟩ := paired_of_each eo
  obtain ⟨ep, he'⟩ := PyProof.Rows.sortedAll_at s.heap its out.toArray
  have hlen : ws.length ≤ sizeLine := by rw [r'.length, ho]; exact hl
  exact ⟨.ref _, upd H (s.heap.objs.size + 1) (.lst ws), I.laid (t' := s.toks) (fun _ _ => PyProof.Rows.sortedAll_old) (Nat.le_succ _) ⟨hlen, out, ep, r', he'⟩, rfl, q _ _ h' (I.hok.fresh (Nat.le_succ _))⟩
section
variable {X : Cx} {Z : PL.Ctx} {α β : Type} {r : Rel α} {x : α} {pos p : Pos} {a b c e tg : Expr} {k m : Nat}
theorem sorted_ask {K : PySem.W.Frag} {d : DataR K r m} (o : OrdD d) (hm : m ≤ 60) {G H : Hp} {l : Addr} {us : List V} {xs : List α} {Q : VK} (s : SmF G H) (h1 : SqL K G l us) (h2 : Paired (r.rd G) us xs) (h3 : xs.length ≤ sizeLine)
    (q : ∀ (out : List V) (p : Addr), Paired (r.rd G) out (srtD d xs) → H p = none → Q (.ref p) (upd H p (.lst out))) : rSortedD K d.toD [.ref l] H Q :=
  ⟨l, us, xs, r.rd G, rfl, s.seq h1, pmono (fun v x h => ⟨h, strs_mono s _ _ (d.dp _ _ _ h)⟩) h2, h3, AllAlike.of o.al, o.sortable xs, fun b _ => Nat.le_trans (d.dep b) hm, fun out p h np => q out p (by rw [← srtD_eq]; exact h) np⟩
theorem ef_sorted {xs : List α} (d : DataR X.K r m) (o : OrdD d) (hr : Room k X.A) (hm : X.mg "sorted" = none) (ha : EvA X [a] Z [.val (rL X.K r) xs]) (hd : m ≤ 60 := by decide) (hg : Gl X "sorted" := by rfl) (he : starEach [a] X.env = (false, eval a X.env) :: starEach [] X.env := by rfl) :
    EvF X (.Call (.Name "sorted" p) [a] [] pos) Z r (srtD d xs) := fun G H σ Q E k =>
  toE (pe_callB (cr_sortedD hr.units d.toD) hg hm (by decide +kernel) ca (he := he)) (ha G H σ _ E fun G1 H1 vs e1 h1 => by
    obtain ⟨v, rfl, l, us, rfl, h3, h4, h5⟩ := slv1 h1
    exact sorted_ask o hd e1.s h3 h4 h5 fun out p hp np => k G1 _ p out (e1.trans (.newM e1.s np)) (e1.h.free np) (e1.s.free np) upd_same hp (by rw [srtD_len]; exact h5))
end
/-! which data can be ordered -/
section
variable {K : PySem.W.Frag} {α β γ δ : Type} {r : Rel α} {s : Rel β} {t : Rel γ} {u : Rel δ} {n m l o : Nat}
theorem oC : OrdD (dC (K := K)) := ⟨fun _ _ => rfl, .inr fun _ => ⟨(fun z => by cases z), fun _ z => by cases z⟩⟩
end
end PL

namespace PL
open PySem PySem.Spec PyProof.Rows L2 PySem.W
/-! ### keys and values of a dict as one list -/
def keysO (p d : Addr) : HO := .ext fun h => KdlKeysView h p d
def valsO (p d : Addr) : HO := .ext fun h => h.IsValuesView p d
def DSrc (H : Hp) (p : Addr) (us : List V) : Prop := (∃ kvs, Rd H p (.dK kvs) ∧ us = kvs.map fun q => kV q.1) ∨ (∃ d kvs, H p = some (keysO p d) ∧ Rd H d (.dK kvs) ∧ us = kvs.map fun q => kV q.1) ∨ (∃ d kvs, H p = some (valsO p d) ∧ Rd H d (.dK kvs) ∧ us = kvs.map fun q => q.2)
theorem kv_at : ∀ {kvs : List (Key × V)} {vs : List (Key × Value)}, KV kvs vs → ∀ (j : Nat) (k : Key) (v : Value), vs[j]? = some (k, v) → ∃ x, kvs[j]? = some (k, x) ∧ RelV x v
  | _, _, .nil, j, k, v, e => by simp at e
  | _, _, .cons (a := p) h t, 0, k, v, e => by
    simp only [List.getElem?_cons_zero, Option.some.injEq] at e
    subst e
    exact ⟨p.2, by rw [show k = p.1 from h.1.symm]; rfl, h.2⟩
  | _, _, .cons h t, j + 1, k, v, e => by
    obtain ⟨x, h1, h2⟩ := kv_at t j k v (by simpa using e)
    exact ⟨x, by simpa using h1, h2⟩
theorem keyIs_rel {k : Key} {v : Value} (h : keyIs k v = true) : RelV (kV k) v := by
  rcases keyIs_shape h with ⟨i, t, rfl, rfl⟩ | ⟨z, t, rfl, rfl⟩
  · exact ⟨t, rfl⟩
  · exact ⟨t, rfl⟩
theorem DSrc.kdl {X : Cx} {pins : List (Addr × Obj)} {σ : L2.St} {H : Hp} {s : Shared} {p : Addr} {us : List V} (I : Inv X pins σ H s) (h : DSrc H p us) :
    ∃ (T : String) (d : Addr) (n : Nat) (P : Nat → Value → Prop) (OK : Heap → Prop), KdlSrc X.prog X.w T p d n P OK ∧ OK s.heap ∧ n = us.length ∧ n ≤ sizeLine ∧ ∀ j v, P j v → ∃ x, us[j]? = some x ∧ RelV x v := by
  rcases h with ⟨kvs, hd, rfl⟩ | ⟨d, kvs, hp, hd, rfl⟩ | ⟨d, kvs, hp, hd, rfl⟩
  · obtain ⟨z, lo, vs, rel, dd⟩ := dk_rd I.hok hd
    obtain ⟨ep, hat⟩ := dd.dictAt
    refine ⟨_, _, _, _, _, kdl_dict (knd := mixKind X.prog X.w) (kvs := vs) (ep := ep) lo, hat, by rw [List.length_map, rel.length], by rw [← rel.length]; exact z, fun j v ⟨k, x, e1, e2⟩ => ?_⟩
    obtain ⟨y, h1, h2⟩ := kv_at rel j k x e1
    exact ⟨kV k, by rw [List.getElem?_map, h1]; rfl, keyIs_rel e2⟩
  · obtain ⟨z, lo, vs, rel, dd⟩ := dk_rd I.hok hd
    obtain ⟨ep, hat⟩ := dd.dictAt
    have hv : KdlKeysView s.heap p d := (show ObjOk X.prog X.w H s.heap p (keysO p d) from I.hok p _ hp).1
    refine ⟨_, _, _, _, _, kdl_keys (knd := mixKind X.prog X.w) (r := p) (kvs := vs) (ep := ep), ⟨hv, hat⟩, by rw [List.length_map, rel.length], by rw [← rel.length]; exact z, fun j v ⟨k, x, e1, e2⟩ => ?_⟩
    obtain ⟨y, h1, h2⟩ := kv_at rel j k x e1
    exact ⟨kV k, by rw [List.getElem?_map, h1]; rfl, keyIs_rel e2⟩
  · obtain ⟨z, lo, vs, rel, dd⟩ := dk_rd I.hok hd
    obtain ⟨ep, hat⟩ := dd.dictAt
    have hv : s.heap.IsValuesView p d := (show ObjOk X.prog X.w H s.heap p (valsO p d) from I.hok p _ hp).1
    refine ⟨_, _, _, _, _, kdl_values (knd := mixKind X.prog X.w) (r := p) (kvs := vs) (ep := ep), ⟨hv, hat⟩, by rw [List.length_map, rel.length], by rw [← rel.length]; exact z, fun j v ⟨k, e1⟩ => ?_⟩
    obtain ⟨y, h1, h2⟩ := kv_at rel j k v e1
    exact ⟨y, by rw [List.getElem?_map, h1]; rfl, h2⟩
theorem vals_at : ∀ {us : List V} {vs : List Value}, vs.length = us.length → (∀ (j : Nat) (v : Value), vs[j]? = some v → ∃ x, us[j]? = some x ∧ RelV x v) → Vals us vs
  | [], [], _, _ => .nil
  | [], _ :: _, h, _ => by cases h
  | _ :: _, [], h, _ => by cases h
  | u :: us, v :: vs, h, hh => by
    obtain ⟨x, e, r⟩ := hh 0 v rfl
    cases e
    exact .cons r (vals_at (Nat.succ.inj h) fun j w e => by
      obtain ⟨x, e1, r1⟩ := hh (j + 1) w (by simpa using e)
      exact ⟨x, by simpa using e1, r1⟩)
def rListS : List V → Hp → VK → Prop := fun xs H Q => ∃ (p : Addr) (us : List V), xs = [.ref p] ∧ DSrc H p us ∧ ∀ o, H o = none → Q (.ref o) (upd H o (.lst us))
theorem call_listS {X : Cx} (hcalm : X.calm = true) : CallR X (.type "list") rListS := by
  intro pins s σ H xs us Q I r q
  obtain ⟨a, ws, rfl, hd, q⟩ := q
  rw [Vals.ref1 r]
  obtain ⟨T, d, n, P, OK, K, ok, hn, hz, hP⟩ := hd.kdl I
  refine kdl_call K (I.ok.hd hcalm) ok hz fun h' tk acc c' hk hD hacc => ?_
  have hv : Vals ws acc.toList := vals_at (by rw [Array.length_toList, hacc.1, hn]) fun j v e => hP j v (hacc.2 j v (by rw [← Array.getElem?_toList]; exact e))
  exact ⟨.ref s.heap.objs.size, upd H s.heap.objs.size (.lst ws), I.laid (t' := tk) hk (Nat.le_refl _) (show ObjOk X.prog X.w _ _ _ (.lst ws) from ⟨by rw [← hn]; exact hz, acc.toList, c', hv, by rw [Array.toArray_toList]; exact hD⟩), rfl, q _ (I.hok.fresh (Nat.le_refl _))⟩
end PL

namespace PL
open PySem PySem.Spec PyProof.Rows L2 PySem.W
section
variable {X : Cx} {Z : PL.Ctx} {α β : Type} {r : Rel α} {x : α} {pos p cp apos : Pos} {a b c d e tg : Expr} {k m : Nat} {kvs : List (Text × α)}
theorem ent_keys {G : Hp} : ∀ {us : List (Key × V)} {kvs : List (Text × α)}, Paired (ent r G) us kvs → (us.map fun q => kV q.1) = (kvs.map (·.1)).map fun t => V.str (mkS t)
  | _, _, .nil => rfl
  | _, _, .cons h t => by
    rw [List.map_cons, List.map_cons, List.map_cons, ent_keys t, h.1]
    rfl
theorem ent_okT {G : Hp} : ∀ {us : List (Key × V)} {kvs : List (Text × α)}, Paired (ent r G) us kvs → ∀ t ∈ kvs.map (·.1), okT t
  | _, _, .nil, t, h => by simp at h
  | _, _, .cons h q, t, ht => by
    rw [List.map_cons] at ht
    rcases List.mem_cons.mp ht with rfl | ht
    · exact h.2.2
    · exact ent_okT q t ht
theorem pair_txts {G : Hp} : ∀ {ts : List Text}, (∀ t ∈ ts, okT t) → Paired (rC.rd G) (ts.map fun t => V.str (mkS t)) ts
  | [], _ => .nil
  | t :: ts, h => .cons ⟨rfl, h t (List.mem_cons_self ..)⟩ (pair_txts fun u hu => h u (List.mem_cons_of_mem _ hu))
def srtC (ts : List Text) : List Text := ts.mergeSort fun a b => !decide (b < a)
theorem ordLt_C {K : PySem.W.Frag} (x y : Text) : ordLt (dC (K := K)) x y = decide (x < y) := dataLt_str (mkS x) (mkS y)
theorem srtD_C {K : PySem.W.Frag} (ts : List Text) : srtD (dC (K := K)) ts = srtC ts := by
  unfold srtD srtC
  congr 1
  funext a b
  rw [ordLt_C]
theorem srtC_len (ts : List Text) : (srtC ts).length = ts.length := (List.mergeSort_perm _ _).length_eq
theorem srtC_mem {ts : List Text} {t : Text} : t ∈ srtC ts ↔ t ∈ ts := (List.mergeSort_perm _ _).mem_iff
theorem ef_listD (hcm : X.calm = true) (hm : X.mg "list" = none) (hd : EvA X [a] Z [.val (rD r) kvs]) (hg : Gl X "list" := by rfl) (he : starEach [a] X.env = (false, eval a X.env) :: starEach [] X.env := by rfl) : EvF X (.Call (.Name "list" p) [a] [] pos) Z rC (kvs.map (·.1)) := fun G H σ Q E k =>
  toE (pe_callTy (call_listS hcm) hg hm (by decide +kernel) ca (he := he)) (hd G H σ _ E fun G1 H1 vs e1 h1 => by
    obtain ⟨v, rfl, l, us, rfl, g2, g3, g4, g5⟩ := slv1 h1
    exact ⟨l, _, rfl, .inl ⟨us, e1.s.dk g2, (ent_keys g3).symm⟩, fun o no => k G1 _ o _ (e1.trans (.newM e1.s no)) (e1.h.free no) (e1.s.free no) upd_same (pair_txts (ent_okT g3)) (by rw [List.length_map]; exact g4)⟩)
end
end PL

namespace PL
open PySem PySem.Spec PyProof.Rows L2
/-! ### a method that changes its object, which is made of several -/
section
variable {ι : Type} (cs : ι → List Cell) (oOf : ι → Addr)
end
section
variable {P : Program} {w : World} {K : PySem.W.Frag} {mg : Str → Option Value} {base : Heap} {ι : Type} {cs : ι → List Cell} {oOf : ι → Addr}
end
section
variable {X : Cx} {Z : PL.Ctx} {ι α : Type} {cs : ι → List Cell} {oOf : ι → Addr} {r : Rel α} {pos p apos : Pos} {e o : Expr} {es : List Expr} {D : Ends} {rest : List Stmt} {m : Str} {k : Nat} {C : Addr}
end
end PL

namespace PL
open PySem PySem.Spec PyProof.Rows L2
/-! ### dicts of the def's own, lent -/
def NoD {α : Type} (r : Rel α) : Prop := ∀ G o us v x, r.rd G v x → G o = some (.dK us) → r.rd (hid G o) v x
section
variable {K : PySem.W.Frag} {α β γ δ : Type} {r : Rel α} {s : Rel β} {t : Rel γ} {u : Rel δ}
theorem nod_C : NoD rC := fun _ _ _ _ _ h _ => h
theorem hid_keepD {G : Hp} {o a : Addr} {us : List (Key × V)} {u : HO} (h : G a = some u) (ho : G o = some (.dK us)) (hn : ∀ xs, u ≠ .dK xs) : hid G o a = some u := by
  rw [hid_ne fun z => by rw [z, ho] at h; exact hn us (Option.some.inj h).symm]
  exact h
theorem seqT_hidD {G : Hp} {o a : Addr} {us : List (Key × V)} {xs : List V} (h : SqT K G a xs) (ho : G o = some (.dK us)) : SqT K (hid G o) a xs := by
  rcases h with (h | ⟨q, h⟩) | h
  · exact .inl (.inl (hid_keepD h ho fun _ z => by cases z))
  · exact .inl (.inr ⟨q, hid_keepD h ho fun _ z => by cases z⟩)
  · exact .inr h
theorem nod_TL (h1 : NoD r) : NoD (rTL K r) := fun G o us v x ⟨a, vs, q1, q2, q3, q4⟩ ho => ⟨a, vs, q1, seqT_hidD q2 ho, pmono (fun _ _ h => h1 _ _ _ _ _ h ho) q3, q4⟩
end
section
variable {X : Cx} {Z : PL.Ctx} {α β γ O : Type} {r : Rel α} {s : Rel β} {x : α} {y : β} {e elt tg c a b : Expr} {kvs kvs' : List (Text × α)} {pos p : Pos} {k : Nat} {D : O → Ends} {rest : List Stmt}
theorem et_lentD (i j : Nat) {o : Addr} {kb : Bool} (hz : Z.sl[i]? = some (.val rRef o)) (hj : Z.ce[j]? = some (.dic o r kvs)) (h : EvT X c ⟨Z.b, Z.sl.set i (.val (rD r) kvs), Z.ce.eraseIdx j⟩ kb) : EvT X c Z kb := fun G H σ Q E k => by
  obtain ⟨vs, h1, h2, h3⟩ := E.frzD hz hj
  exact h _ H σ Q h3 fun G2 H2 e2 => k (hid G2 o) H2 (lent_ext h2 e2)
theorem etm_lentD (i j : Nat) {o : Addr} {m : Rs Bool} (hz : Z.sl[i]? = some (.val rRef o)) (hj : Z.ce[j]? = some (.dic o r kvs)) (h : EvTM X e ⟨Z.b, Z.sl.set i (.val (rD r) kvs), Z.ce.eraseIdx j⟩ m) : EvTM X e Z m := fun y q => et_lentD i j hz hj (h y q)
/-! ### d == e -/
def dEq {α : Type} [DecidableEq α] (kvs kvs' : List (Text × α)) : Bool := (kvs.length == kvs'.length) && kvs.all fun q => decide (dget kvs' q.1 = some q.2)
theorem hits_of [DecidableEq α] {K : PySem.W.Frag} {n : Nat} (d : DataR K r n) (hn : n ≤ 60) {X : Cx} {pins : List (Addr × Obj)} {σ : L2.St} {G H : Hp} {s : Shared} (I : Inv X pins σ H s) (hK : X.K = K) (hu : X.A.units + 70 < cLine) (sm : SmF G H) {us' : List (Key × V)} {vs' : List (Key × Value)} (g' : Paired (ent r G) us' kvs') (kv' : KV us' vs') :
    ∀ {us : List (Key × V)} {vs : List (Key × Value)} {kvs : List (Text × α)}, Paired (ent r G) us kvs → KV us vs → PySem.W.KeqHits X.A.in1 s vs' vs (kvs.all fun q => decide (dget kvs' q.1 = some q.2))
  | _, _, _, .nil, .nil => .nil
  | _, _, _, .cons (a := p) (b := q) g gt, .cons (b := w) h ht => by
    obtain ⟨k, v⟩ := p
    obtain ⟨k1, v1⟩ := w
    obtain ⟨g1, g2, g3⟩ := g
    obtain ⟨h1, h2⟩ := h
    have g1 : k = Sum.inr (mkS q.1) := g1
    have h1 : k = k1 := h1
    subst h1
    subst g1
    have ih := hits_of d hn I hK hu sm g' kv' gt ht
    have rv := kv'.val (Sum.inr (mkS q.1))
    rw [List.all_cons]
    rcases ent_get (t := q.1) g' with ⟨q1, q2⟩ | ⟨v', z, q1, q2, q3⟩
    · rw [q1] at rv
      rw [q2, decide_eq_false (fun z => by cases z), Bool.false_and]
      refine .miss ?_
      cases e : valueAt vs' (Sum.inr (mkS q.1) : Key) with
      | none => rfl
      | some y => rw [e] at rv; exact rv.elim
    · rw [q1] at rv
      cases e : valueAt vs' (Sum.inr (mkS q.1) : Key) with
      | none => rw [e] at rv; exact rv.elim
      | some y =>
        rw [e] at rv
        have ed : decide (dget kvs' q.1 = some q.2) = PyData.eqv (d.toD q.2) (d.toD z) := by
          rw [q2]
          cases ee : PyData.eqv (d.toD q.2) (d.toD z) with
          | true => exact decide_eq_true (by rw [(d.eqv _ _).mp ee])
          | false => exact decide_eq_false fun w => by rw [(d.eqv _ _).mpr (Option.some.inj w).symm] at ee; cases ee
        rw [ed]
        subst hK
        obtain ⟨as, r1⟩ := Dp.reads I _ v v1 (strs_mono sm _ _ (d.dp _ _ _ g2)) h2
        obtain ⟨bs, r2⟩ := Dp.reads I _ v' y (strs_mono sm _ _ (d.dp _ _ _ q3)) rv
        exact .hit e (PySem.W.keq_at r1 r2 (shaped_of (d.lay _ _ _ g2) (d.dep _) (by omega)) (shaped_of (d.lay _ _ _ q3) (d.dep _) (by omega)) (by show X.A.units + 1 + 64 < cLine; omega)) ih
def rDictCmp {α : Type} [DecidableEq α] (K : PySem.W.Frag) (neg : Bool) : R2 := fun x y H Q => ∃ (a b : Addr) (us us' : List (Key × V)) (G : Hp) (r : Rel α) (n : Nat) (d : DataR K r n) (kvs kvs' : List (Text × α)), x = .ref a ∧ y = .ref b ∧ n ≤ 60 ∧ SmF G H ∧ Rd H a (.dK us) ∧ Rd H b (.dK us') ∧ Paired (ent r G) us kvs ∧ Paired (ent r G) us' kvs' ∧ Q (.bl (if neg then !dEq kvs kvs' else dEq kvs kvs')) H
theorem op_neDict [DecidableEq α] (hu : X.A.units + 70 < cLine) : OpR X (compareOp .NotEq) (rDictCmp (α := α) X.K true) := by
  intro pins s σ H x y v u Q I rx ry h
  obtain ⟨a, b, us, us', G, r, n, d, kvs, kvs', rfl, rfl, hn, sm, ha, hb, g, g', q⟩ := h
  obtain rfl : v = Value.ref a := rx
  obtain rfl : u = Value.ref b := ry
  obtain ⟨_, ya, va, ra, da⟩ := dk_rd I.hok ha
  obtain ⟨_, yb, vb, rb, db⟩ := dk_rd I.hok hb
  refine PySem.W.keq_ne (knd := mixKind X.prog X.w) ya yb da db (by omega) (fun _ => hits_of d hn I rfl hu sm g' rb g ra) ⟨.bl _, H, I, rfl, ?_⟩
  have e : (va.length == vb.length) = (kvs.length == kvs'.length) := by rw [← ra.length, ← rb.length, plen g, plen g']
  rw [e]
  exact q
theorem cm_neDict [DecidableEq α] {m : Nat} (d : DataR X.K r m) (hr : Room k X.A) (ha : EvE X a Z (rD r) kvs) (hb : EvE X b Z (rD r) kvs') (hm : m ≤ 60 := by decide) : CmpE X .NotEq a b Z (!dEq kvs kvs') := cm2 (op_neDict (α := α) (by have := hr.un; omega)) (nomark _) ha hb fun G H v w Q s h1 h2 k => by
  obtain ⟨l, us, rfl, g2, g3, _⟩ := h1
  obtain ⟨l', us', rfl, g2', g3', _⟩ := h2
  exact ⟨l, l', us, us', G, r, m, d, kvs, kvs', rfl, rfl, hm, s, s.dk g2, s.dk g2', g3, g3', k G H _ (.refl s) rfl⟩
theorem ef_sortedC {xs : List Text} (hr : Room k X.A) (hm : X.mg "sorted" = none) (ha : EvA X [a] Z [.val (rL X.K rC) xs]) (hg : Gl X "sorted" := by rfl) (he : starEach [a] X.env = (false, eval a X.env) :: starEach [] X.env := by rfl) :
    EvF X (.Call (.Name "sorted" p) [a] [] pos) Z rC (srtC xs) := by
  have h := ef_sorted dC oC hr hm ha (by decide) hg he (p := p) (pos := pos)
  rw [srtD_C] at h
  exact h
end
end PL

namespace PL
open PySem PySem.Spec PyProof.Rows L2
section
variable {X : Cx} {Z : PL.Ctx} {α β γ δ ε ζ τ O : Type} {r : Rel α} {s : Rel β} {t : Rel γ} {u : Rel δ} {rz : Rel ζ} {rt : Rel τ} {pos p : Pos} {a e : Expr} {es : List Expr} {n : Str} {k : Nat} {D : O → Ends} {rest : List Stmt} {x : α} {y : β} {z : γ} {q : δ} {xs ys : List τ}
end
end PL

namespace PL
open PySem PySem.Spec PyProof.Rows L2 TL
/-! ### plain rules, more of them -/
section
variable {α β S : Type}
theorem mapS_ok {f : S → α → Rs (β × S)} {P : S → Prop} {T : β → Prop} : ∀ {xs : List α} {s : S}, P s → (∀ s x, x ∈ xs → P s → Yes (f s x) fun q => T q.1 ∧ P q.2) → Yes (mapS f s xs) fun q => q.1.length = xs.length ∧ (∀ y ∈ q.1, T y) ∧ P q.2
  | [], s, h, _ => ⟨_, rfl, rfl, (fun y hy => by cases hy), h⟩
  | x :: xs, s, h, hf => by
    obtain ⟨q, h1, h2, h3⟩ := hf s x (List.mem_cons_self ..) h
    obtain ⟨q2, g1, g2, g3, g4⟩ := mapS_ok h3 fun s y hy hs => hf s y (List.mem_cons_of_mem _ hy) hs
    refine ⟨(q.1 :: q2.1, q2.2), ?_, by rw [List.length_cons, List.length_cons, g2], fun y hy => ?_, g4⟩
    · unfold mapS
      rw [h1]
      simp only [Rs.bd_ok]
      rw [g1]
      rfl
    · rcases List.mem_cons.mp hy with rfl | hy
      · exact h2
      · exact g3 y hy
theorem ixR_ok {xs : List α} {i : Int} (h0 : 0 ≤ i) (h1 : i < xs.length) : ∃ x, x ∈ xs ∧ ixR xs i = .ok x := by
  have hi : i.toNat < xs.length := by omega
  exact ⟨xs[i.toNat], List.getElem_mem hi, ixR_at (j := i.toNat) (by omega) (List.getElem?_eq_getElem hi)⟩
theorem joinL_nil : ∀ xs : List Text, joinL [] xs = xs.flatten
  | [] => rfl
  | [x] => by simp [joinL]
  | x :: y :: r => by
    show x ++ ([] ++ joinL [] (y :: r)) = _
    rw [joinL_nil (y :: r)]
    rfl
theorem join_ok {xs : List Text} {P : Nat → Prop} {n : Nat} (h : ∀ x ∈ xs, ∃ c, x = [c] ∧ P c) (hn : xs.length ≤ n) (hb : n ≤ 1000000) : Yes (joinR [] xs) fun t => t.length = xs.length ∧ ∀ c ∈ t, P c := by
  have hs : (xs.map (·.length)).sum = xs.length := by
    clear hn
    induction xs with
    | nil => rfl
    | cons x xs ih =>
      obtain ⟨c, rfl, _⟩ := h x (List.mem_cons_self ..)
      rw [List.map_cons, List.sum_cons, ih fun y hy => h y (List.mem_cons_of_mem _ hy)]
      simp only [List.length_cons, List.length_nil]
      omega
  refine ⟨joinR0 [] xs, Rs.gd_pos (by rw [hs, List.length_nil, Nat.mul_zero]; omega), ?_, ?_⟩
  · show (joinL [] xs).length = _
    rw [joinL_nil, List.length_flatten, hs]
  · intro c hc
    have hc : c ∈ joinL [] xs := hc
    rw [joinL_nil] at hc
    obtain ⟨x, hx, hcx⟩ := List.mem_flatten.mp hc
    obtain ⟨d, rfl, hd⟩ := h x hx
    rw [List.mem_singleton.mp hcx]
    exact hd
theorem Yes.then {α β : Type} {m : Rs α} {f : α → Rs β} {P : α → Prop} {Q : β → Prop} (h : Yes m P) (q : ∀ x, P x → Yes (f x) Q) : Yes (m.bd f) Q := h.bd q
end
end PL

namespace PL
open PySem PySem.Spec PyProof.Rows L2
/-! ### __init__ of classes whose parts are values -/
section
variable {K : PySem.W.Frag} {α : Type}
end
section
variable {X : Cx} {Z : PL.Ctx} {α β O : Type} {r : Rel α} {x : α} {pos p pos' : Pos} {o e : Expr} {D : O → Ends} {rest : List Stmt}
theorem gm_fldM (j : Nat) {l dx C : Addr} {fs : List (Str × Slot)} {f : Str} {m : Rs α} {g : α → Rs O} (hc : Cls X.K C) (hn : NoAttr X.K C f) (he : EvM X e Z r m) (ho : EvE X o Z rRef l) (hj : Z.ce[j]? = some (.ins l dx C fs)) (hl : fs.length < 1000)
    (h : ∀ x, GM X rest (Z.setC (Z.ce.set j (.ins l dx C (putS f (.val r x) fs)))) D (g x)) (hs : swapsWith e (some (.Attribute o f pos')) pos.line X.env = pure false := by rfl) : GM X (.Assign [.Attribute o f pos'] e pos :: rest) Z D (m.bd g) := fun z q => by
  obtain ⟨x, q1, q2⟩ := Rs.bd_inv q
  exact goes_fld j hc hn (he x q1) ho hj hl (h x z q2) hs
theorem gm_endI {G0 H : Hp} {l dx C : Addr} {fs : O → List (Str × Slot)} (z : O) (hc : Z.ce = [.ins l dx C (fs z)]) (h0 : Z.b.G0 = G0 := by rfl) (h1 : Z.b.H0 = hid H l := by rfl) : GM X [] Z (fun z => retI G0 H l dx C (fs z)) (.ok z) := fun o q => by
  cases q
  exact goes_endI hc h0 h1
end
end PL
namespace PL
open PySem PySem.Spec PyProof.Rows L2
section
variable {X : Cx} {Z : PL.Ctx} {α S : Type} {Zs : S → PL.Ctx} {r : Rel α} {p pos : Pos} {a : Expr}
end
end PL

namespace PL
open PySem PySem.Spec PyProof.Rows L2
/-! ### a list of two unlike things -/
section
variable {K : PySem.W.Frag} {α β : Type} {r : Rel α} {s : Rel β}
def rH2 (K : PySem.W.Frag) (r : Rel α) (s : Rel β) : Rel (α × β) :=
  ⟨fun G v x => ∃ a v1 v2, v = .ref a ∧ SqL K G a [v1, v2] ∧ r.rd G v1 x.1 ∧ s.rd G v2 x.2, fun e ⟨a, v1, v2, h1, h2, h3, h4⟩ => ⟨a, v1, v2, h1, e.seq h2, r.mono e h3, s.mono e h4⟩⟩
end
section
variable {X : Cx} {Z : PL.Ctx} {α β γ O : Type} {r : Rel α} {s : Rel β} {t : Rel γ} {x : α} {y : β} {z : γ} {pos p : Pos} {a b e c : Expr} {D : O → Ends} {rest : List Stmt} {n : Str}
theorem ev_hl2 (ha : EvA X [a, b] Z [.val r x, .val s y]) : EvE X (.List [a, b] pos) Z (rH2 X.K r s) (x, y) := fun G H σ Q E q =>
  toE (pe_lst ca) (ha G H σ _ E fun G1 H1 vs e1 h1 => by
    obtain ⟨v, w, rfl, h2, h3⟩ := slv2 h1
    refine ⟨small_two, fun l hl => q _ _ _ (e1.trans (.new e1.s hl)) ?_⟩
    have e2 : Same G1 (upd G1 l (.lst [v, w])) := same_upd (e1.s.free hl)
    exact ⟨l, v, w, rfl, SqL.of upd_same, r.mono e2 h2, s.mono e2 h3⟩)
/-! ### .. of the def's own, with its parts -/
def PtOf (K : PySem.W.Frag) (c : Cell) {α : Type} (ρ : Rel α) (x : α) : Prop := ∀ G u, c.is G u → G c.addr = none → ρ.rd (upd G c.addr u) (.ref c.addr) x
theorem pt_lst {K : PySem.W.Frag} {o : Addr} {xs : List α} : PtOf K (.lst o r xs) (rL K r) xs := fun G u h hG => by
  obtain ⟨vs, rfl, h2, h3⟩ := h
  exact ⟨o, vs, rfl, SqL.of upd_same, pmono (fun _ _ => r.mono (same_upd hG)) h2, h3⟩
theorem pt_dic {K : PySem.W.Frag} {o : Addr} {kvs : List (Text × α)} : PtOf K (.dic o r kvs) (rD r) kvs := fun G u h hG => by
  obtain ⟨us, rfl, h2, h3⟩ := h
  have s1 : Same G (upd G o (.dK us)) := same_upd hG
  exact ⟨o, us, rfl, upd_same, pmono (fun _ _ q => ⟨q.1, r.mono s1 q.2.1, q.2.2⟩) h2, h3⟩
theorem Env.lentH {G H : Hp} {σ : L2.St} {i j0 j1 j2 : Nat} {o0 : Addr} {c1 c2 : Cell} (E : Env Z G H σ) (hz : Z.sl[i]? = some (.val rRef o0)) (h0 : Z.ce[j0]? = some (.lst o0 rRef [c1.addr, c2.addr])) (h1 : (Z.ce.eraseIdx j0)[j1]? = some c1) (h2 : ((Z.ce.eraseIdx j0).eraseIdx j1)[j2]? = some c2)
    (p1 : PtOf X.K c1 r x) (p2 : PtOf X.K c2 s y) : ∃ u0 u1 u2, G o0 = none ∧ (∃ us, u0 = .lst us) ∧ upd G o0 u0 c1.addr = none ∧ upd (upd G o0 u0) c1.addr u1 c2.addr = none ∧ H c1.addr = some u1 ∧ H c2.addr = some u2 ∧
      Env ⟨Z.b, Z.sl.set i (.val (rH2 X.K r s) (x, y)), ((Z.ce.eraseIdx j0).eraseIdx j1).eraseIdx j2⟩ (upd (upd (upd G o0 u0) c1.addr u1) c2.addr u2) H σ := by
  obtain ⟨u0, a1, a2, a3, ⟨us, rfl, a4, a5⟩, E0⟩ := E.frzB h0
  obtain ⟨u1, b1, b2, b3, b4, E1⟩ := E0.frzB (c := c1) h1
  obtain ⟨u2, d1, d2, d3, d4, E2⟩ := E1.frzB (c := c2) h2
  refine ⟨.lst us, u1, u2, a2, ⟨us, rfl⟩, b2, d2, b1, d1, ?_⟩
  obtain ⟨v, g1, g2⟩ := E2.get (i := i) hz
  obtain rfl : v = .ref o0 := g2
  have E3 := E2.setv (i := i) (s := .val (rH2 X.K r s) (x, y)) (ov := some (.ref o0)) ⟨.ref o0, rfl, ?_⟩
  · have e : σ.set i (some (.ref o0)) = σ := by
      apply List.ext_getElem?
      intro k
      by_cases hk : i = k
      · subst hk
        have hl := (List.getElem?_eq_some_iff.mp g1).1
        rw [List.getElem?_set_self hl, g1]
      · rw [List.getElem?_set_ne hk]
    rw [e] at E3
    exact E3
  · cases a4 with
    | cons q1 a4 =>
      cases a4 with
      | cons q2 a4 =>
        cases a4
        have q1 : _ = V.ref c1.addr := q1
        have q2 : _ = V.ref c2.addr := q2
        subst q1 q2
        have s1 : Same (upd G o0 _) (upd (upd G o0 _) c1.addr u1) := same_upd b2
        have s2 : Same (upd (upd G o0 _) c1.addr u1) (upd (upd (upd G o0 _) c1.addr u1) c2.addr u2) := same_upd d2
        refine ⟨o0, _, _, rfl, SqL.of (s2 _ _ (s1 _ _ upd_same)), r.mono s2 (p1 _ _ b4 b2), p2 _ _ d4 d2⟩
theorem lentH_ext {G H G2 H2 : Hp} {o0 o1 o2 : Addr} {u0 u1 u2 : HO} (g0 : G o0 = none) (g1 : upd G o0 u0 o1 = none) (g2 : upd (upd G o0 u0) o1 u1 o2 = none) (e : Ext (upd (upd (upd G o0 u0) o1 u1) o2 u2) H G2 H2) : Ext G H (hid (hid (hid G2 o2) o1) o0) H2 :=
  lent_ext g0 (lent_ext g1 (lent_ext g2 e))
theorem et_lentH (i j0 j1 j2 : Nat) {o0 : Addr} {c1 c2 : Cell} {kb : Bool} (p1 : PtOf X.K c1 r x) (p2 : PtOf X.K c2 s y) (hz : Z.sl[i]? = some (.val rRef o0)) (h0 : Z.ce[j0]? = some (.lst o0 rRef [c1.addr, c2.addr])) (h1 : (Z.ce.eraseIdx j0)[j1]? = some c1) (h2 : ((Z.ce.eraseIdx j0).eraseIdx j1)[j2]? = some c2)
    (h : EvT X c ⟨Z.b, Z.sl.set i (.val (rH2 X.K r s) (x, y)), ((Z.ce.eraseIdx j0).eraseIdx j1).eraseIdx j2⟩ kb) : EvT X c Z kb := fun G H σ Q E k => by
  obtain ⟨u0, u1, u2, g0, _, g1, g2, _, _, E'⟩ := E.lentH (X := X) hz h0 h1 h2 p1 p2
  exact h _ H σ Q E' fun G2 H2 e2 => k _ H2 (lentH_ext g0 g1 g2 e2)
theorem etm_lentH (i j0 j1 j2 : Nat) {o0 : Addr} {c1 c2 : Cell} {m : Rs Bool} (p1 : PtOf X.K c1 r x) (p2 : PtOf X.K c2 s y) (hz : Z.sl[i]? = some (.val rRef o0)) (h0 : Z.ce[j0]? = some (.lst o0 rRef [c1.addr, c2.addr])) (h1 : (Z.ce.eraseIdx j0)[j1]? = some c1) (h2 : ((Z.ce.eraseIdx j0).eraseIdx j1)[j2]? = some c2)
    (h : EvTM X c ⟨Z.b, Z.sl.set i (.val (rH2 X.K r s) (x, y)), ((Z.ce.eraseIdx j0).eraseIdx j1).eraseIdx j2⟩ m) : EvTM X c Z m := fun z q => et_lentH i j0 j1 j2 p1 p2 hz h0 h1 h2 (h z q)
end
end PL

namespace PL
open PySem PySem.Spec PyProof.Rows L2
section
variable {X : Cx} {Z : PL.Ctx} {α β γ O : Type} {r : Rel α} {s : Rel β} {x : α} {pos p : Pos} {a b e c e1 e2 o : Expr} {D : O → Ends} {rest : List Stmt} {n : Str}
def EvN (X : Cx) (e : Expr) (Z : PL.Ctx) (mk : Addr → Cell) : Prop :=
  (∀ o, (mk o).addr = o) ∧ ∀ G H σ Q, Env Z G H σ → (∀ G' H' o u, Ext G H G' H' → H o = none → G' o = none → H' o = some u → (mk o).is G' u → Q (.ref o) H') → wE X e σ H Q
theorem en_f {xs : List α} (h : EvF X e Z r xs) : EvN X e Z (fun o => .lst o r xs) := ⟨fun _ => rfl, fun G H σ Q E k => h G H σ Q E fun G1 H1 o vs q1 q2 q3 q4 q5 q6 => k G1 H1 o _ q1 q2 q3 q4 ⟨vs, rfl, q5, q6⟩⟩
theorem nol_Ref : NoL rRef := fun _ _ _ _ _ h _ => h
theorem goes_mkH (i : Nat) {p' pl : Pos} {mk1 mk2 : Addr → Cell} {D : Ends} (nd : X.N.Nodup) (h1 : EvN X e1 Z mk1) (h2 : EvN X e2 Z mk2) (h : ∀ o0 o1 o2, Goes X rest ⟨Z.b, Z.sl.set i (.val rRef o0), .lst o0 rRef [o1, o2] :: mk2 o2 :: mk1 o1 :: Z.ce⟩ D) (hi : X.N[i]? = some n := by rfl) (hx : Loc X.env.scope n := by first | exact Or.inl rfl | exact Or.inr rfl)
    (hs : swapsWith (.List [e1, e2] pl) (some (.Name n p')) pos.line X.env = pure false := by rfl) (hf : X.fn n = true ∨ X.env.scope.names.lookup n = some .local := by first | exact .inl rfl | exact .inr rfl | assumption)
    (hs1 : starEach [e1, e2] X.env = (false, eval e1 X.env) :: starEach [e2] X.env := by rfl) (hs2 : starEach [e2] X.env = (false, eval e2 X.env) :: starEach [] X.env := by rfl) : Goes X (.Assign [.Name n p'] (.List [e1, e2] pl) pos :: rest) Z D :=
  goes_of (ps_set nd hi hx (pe_lst (pa_cons ce (pa_cons ce pa_nil hs2) hs1)) hs hf) fun G H σ E => h1.2 G H σ _ E fun G1 H1 o1 u1 x1 n1 g1 w1 c1 => h2.2 G1 H1 σ _ (E.ext x1) fun G2 H2 o2 u2 x2 n2 g2 w2 c2 => by
    refine ⟨small_two, fun o0 n0 => ?_⟩
    have x3 : Ext G2 H2 G2 (upd H2 o0 (.lst [.ref o1, .ref o2])) := .newM x2.s n0
    have E2 := (E.ext x1).ext x2
    have E3 := (E2.ext x3).setv (i := i) (s := .val rRef o0) (ov := some (.ref o0)) ⟨.ref o0, rfl, rfl⟩
    have g12 : G2 o1 = none := x2.n o1 (by rw [w1]; exact fun z => by cases z) g1
    have w12 : H2 o1 = some u1 := x2.h _ _ w1
    have ne01 : o1 ≠ o0 := fun z => by rw [z, n0] at w12; cases w12
    have ne02 : o2 ≠ o0 := fun z => by rw [z, n0] at w2; cases w2
    have ne12 : o2 ≠ o1 := fun z => by rw [z, w1] at n2; cases n2
    have hfree0 : Z.b.H0 o0 = none := by
      cases q : Z.b.H0 o0 with
      | none => rfl
      | some u => have := E2.ex.h _ _ q; rw [n0] at this; cases this
    have hfree2 : Z.b.H0 o2 = none := by
      cases q : Z.b.H0 o2 with
      | none => rfl
      | some u => have := (E.ext x1).ex.h _ _ q; rw [n2] at this; cases this
    have hfree1 : Z.b.H0 o1 = none := by
      cases q : Z.b.H0 o1 with
      | none => rfl
      | some u => have := E.ex.h _ _ q; rw [n1] at this; cases this
    have old : ∀ q ∈ Z.ce, q.addr ≠ o0 ∧ q.addr ≠ o1 ∧ q.addr ≠ o2 := fun q hq => by
      obtain ⟨_, _, u, w, _⟩ := E.ce q hq
      refine ⟨fun z => ?_, fun z => ?_, fun z => ?_⟩
      · have := x2.h _ _ (x1.h _ _ w); rw [z, n0] at this; cases this
      · rw [z, n1] at w; cases w
      · have := x1.h _ _ w; rw [z, n2] at this; cases this
    refine h o0 o1 o2 G2 _ _ ⟨E3.ex, E3.ab, E3.sl, fun q hq => ?_, ?_⟩
    · rcases List.mem_cons.mp hq with rfl | hq
      · exact ⟨hfree0, x2.s.free n0, _, upd_same, _, rfl, .cons rfl (.cons rfl .nil), by show 2 ≤ sizeLine; exact small_two⟩
      rcases List.mem_cons.mp hq with rfl | hq
      · refine ⟨by rw [h2.1]; exact hfree2, by rw [h2.1]; exact g2, u2, by rw [h2.1, upd_ne ne02]; exact w2, c2⟩
      rcases List.mem_cons.mp hq with rfl | hq
      · refine ⟨by rw [h1.1]; exact hfree1, by rw [h1.1]; exact g12, u1, by rw [h1.1, upd_ne ne01]; exact w12, Cell.is_mono x2.g c1⟩
      · exact E3.ce q hq
    · show (o0 :: (mk2 o2).addr :: (mk1 o1).addr :: Z.ce.map Cell.addr).Nodup
      rw [h2.1, h1.1]
      refine List.nodup_cons.mpr ⟨fun hm => ?_, List.nodup_cons.mpr ⟨fun hm => ?_, List.nodup_cons.mpr ⟨fun hm => ?_, E.nd⟩⟩⟩
      · rcases List.mem_cons.mp hm with z | hm
        · exact ne02 z.symm
        rcases List.mem_cons.mp hm with z | hm
        · exact ne01 z.symm
        · obtain ⟨q, hq, z⟩ := List.mem_map.mp hm
          exact (old q hq).1 z
      · rcases List.mem_cons.mp hm with z | hm
        · exact ne12 z
        · obtain ⟨q, hq, z⟩ := List.mem_map.mp hm
          exact (old q hq).2.2 z
      · obtain ⟨q, hq, z⟩ := List.mem_map.mp hm
        exact (old q hq).2.1 z
theorem gm_mkH (i : Nat) {p' pl : Pos} {mk1 mk2 : Addr → Cell} {m : Rs O} (nd : X.N.Nodup) (h1 : EvN X e1 Z mk1) (h2 : EvN X e2 Z mk2) (h : ∀ o0 o1 o2, GM X rest ⟨Z.b, Z.sl.set i (.val rRef o0), .lst o0 rRef [o1, o2] :: mk2 o2 :: mk1 o1 :: Z.ce⟩ D m) (hi : X.N[i]? = some n := by rfl) (hx : Loc X.env.scope n := by first | exact Or.inl rfl | exact Or.inr rfl)
    (hs : swapsWith (.List [e1, e2] pl) (some (.Name n p')) pos.line X.env = pure false := by rfl) (hf : X.fn n = true ∨ X.env.scope.names.lookup n = some .local := by first | exact .inl rfl | exact .inr rfl | assumption)
    (hs1 : starEach [e1, e2] X.env = (false, eval e1 X.env) :: starEach [e2] X.env := by rfl) (hs2 : starEach [e2] X.env = (false, eval e2 X.env) :: starEach [] X.env := by rfl) : GM X (.Assign [.Name n p'] (.List [e1, e2] pl) pos :: rest) Z D m := fun z q => goes_mkH i nd h1 h2 (fun o0 o1 o2 => h o0 o1 o2 z q) hi hx hs hf hs1 hs2
theorem ev_ptH (i j k : Nat) {o0 ok : Addr} {os : List Addr} {jj : Nat} (hz : Z.sl[i]? = some (.val rRef o0)) (hj : Z.ce[j]? = some (.lst o0 rRef os)) (hk : os[k]? = some ok) (ha : EvE X a ⟨Z.b, Z.sl.set i (.val (rL X.K rRef) os), Z.ce.eraseIdx j⟩ (rL X.K rRef) os) (hs : PlainIx (.Constant (.int (k : Int)) jj p) := by exact fun _ _ => rfl) :
    EvE X (.Subscript a (.Constant (.int (k : Int)) jj p) pos) Z rRef ok := ev_lent i j nol_Ref hz hj (ev_ixL (j := k) ha ev_int rfl hk hs)
theorem goes_appE (j : Nat) {l : Addr} {xs : List α} {pa pc : Pos} {D : Ends} (ho : EvE X o Z rRef l) (he : EvE X e Z r x) (hj : Z.ce[j]? = some (.lst l r xs)) (hl : xs.length < sizeLine)
    (h : Goes X rest (Z.setC (Z.ce.set j (.lst l r (xs ++ [x])))) D)
    (hbase : attributeBase o "append" X.env (eval o X.env) = eval o X.env := by rfl)
    (hfew : ((backTo pc (starEach [e] X.env)).all (fun x => !x.1) && (backToKw pc (keywordEach [] X.env)).all (fun x => x.1.isSome) && decide ([e].length + ([] : List Keyword).length + (if ([] : List Keyword).isEmpty then 0 else 1) < 30)) = true := by rfl)
    (hline : (pa.endLine == pc.line) = true := by rfl) (hs : starEach [e] X.env = (false, eval e X.env) :: starEach [] X.env := by rfl) (hplain : (backTo pc (starEach [] X.env)).any (·.1) = false := by rfl)
    (hsw : swapsWith (.Call (.Attribute o "append" pa) [e] [] pc) none pos.line X.env = pure false := by rfl) : Goes X (.Expr (.Call (.Attribute o "append" pa) [e] [] pc) pos :: rest) Z D :=
  goes_of (ps_expr (pe_bm PySem.F.plainAttrs_list PySem.F.slot_list_append PySem.F.type_list_append mt_append ce (pa_cons ce pa_nil hs) hbase hfew hline hs hplain) hsw) fun G H σ E => ho G H σ _ E fun G1 H1 v x1 hv => by
    obtain rfl : v = .ref l := hv
    have E1 := E.ext x1
    obtain ⟨c0, cG, vs, cH, cP, cL⟩ := Cell.ok_lst (E1.ce _ (List.mem_of_getElem? hj))
    refine ⟨.inl ⟨rfl, _, SqL.of cH⟩, he G1 H1 σ _ E1 fun G2 H2 w x2 hw => ?_⟩
    have E2 := E1.ext x2
    obtain ⟨c0', cG', vs', cH', cP', cL'⟩ := Cell.ok_lst (E2.ce _ (List.mem_of_getElem? hj))
    exact ⟨l, vs', w, rfl, rfl, cH', by rw [plen cP']; exact hl, h G2 _ σ (E2.cell hj (psnoc cP' hw) (by rw [List.length_append]; exact hl))⟩
theorem gm_appE (j : Nat) {l : Addr} {xs : List α} {pa pc : Pos} {m : Rs α} {f : α → List α → Rs O} (ho : EvE X o Z rRef l) (he : EvM X e Z r m) (hj : Z.ce[j]? = some (.lst l r xs))
    (h : ∀ x ys, GM X rest (Z.setC (Z.ce.set j (.lst l r ys))) D (f x ys))
    (hbase : attributeBase o "append" X.env (eval o X.env) = eval o X.env := by rfl)
    (hfew : ((backTo pc (starEach [e] X.env)).all (fun x => !x.1) && (backToKw pc (keywordEach [] X.env)).all (fun x => x.1.isSome) && decide ([e].length + ([] : List Keyword).length + (if ([] : List Keyword).isEmpty then 0 else 1) < 30)) = true := by rfl)
    (hline : (pa.endLine == pc.line) = true := by rfl) (hs : starEach [e] X.env = (false, eval e X.env) :: starEach [] X.env := by rfl) (hplain : (backTo pc (starEach [] X.env)).any (·.1) = false := by rfl)
    (hsw : swapsWith (.Call (.Attribute o "append" pa) [e] [] pc) none pos.line X.env = pure false := by rfl) : GM X (.Expr (.Call (.Attribute o "append" pa) [e] [] pc) pos :: rest) Z D (m.bd fun x => (appR xs x).bd (f x)) := fun o' q => by
  obtain ⟨x, q1, q2⟩ := Rs.bd_inv q
  obtain ⟨ys, q3, q4⟩ := Rs.bd_inv q2
  obtain ⟨hl, q3⟩ := Rs.gd_inv q3
  cases q3
  exact goes_appE j ho (he x q1) hj (by rw [sizeLine_eq]; exact hl) (h x _ o' q4) hbase hfew hline hs hplain hsw
end
end PL
namespace PL
open PySem PySem.Spec PyProof.Rows L2
section
variable {X : Cx} {Z : PL.Ctx} {α β O : Type} {r : Rel α} {s : Rel β} {pos : Pos} {e1 e2 : Expr} {D : O → Ends} {rest : List Stmt} {n : Str}
end
end PL

namespace PL
open PySem PySem.Spec PyProof.Rows L2
/-! ### isinstance of an instance; a dict made of a dict -/
structure IsC (K : PySem.W.Frag) (C : Addr) : Prop where
  ha : PySem.W.findIn K (.ref C) "__class__" = some (some (.builtin "object.__class__"))
  hs : PySem.W.specialIn K (.builtin "object.__class__") "__get__" = some (some (.builtin "getset_descriptor.__get__"))
  ht : PySem.W.takesIn K (.builtin "object.__class__") = some true
  hm : PySem.W.mroIn K C (.type "object") = some true
def isCB (K : PySem.W.Frag) (C : Addr) : Bool := decide (PySem.W.findIn K (.ref C) "__class__" = some (some (.builtin "object.__class__"))) && (decide (PySem.W.specialIn K (.builtin "object.__class__") "__get__" = some (some (.builtin "getset_descriptor.__get__"))) && (decide (PySem.W.takesIn K (.builtin "object.__class__") = some true) && decide (PySem.W.mroIn K C (.type "object") = some true)))
theorem isC_ok {K : PySem.W.Frag} {C : Addr} (h : isCB K C = true) : IsC K C := by
  unfold isCB at h
  obtain ⟨h1, h⟩ := He.ba h
  obtain ⟨h2, h⟩ := He.ba h
  obtain ⟨h3, h4⟩ := He.ba h
  exact ⟨of_decide_eq_true h1, of_decide_eq_true h2, of_decide_eq_true h3, of_decide_eq_true h4⟩
section
variable {X : Cx} {Z : PL.Ctx} {α β O : Type} {r : Rel α} {x : α} {pos p : Pos} {a : Expr} {D : O → Ends} {rest : List Stmt}
theorem ev_isC {C : Addr} {fs : α → List (Str × Slot)} {pu : Pos} {m : Str} (hc : Cls X.K C) (hi : IsC X.K C) (hm : X.mg "isinstance" = none) (hu : X.mg m = some (.ref C)) (ha : EvE X a Z (rObj C fs) x) (hgu : Gl X m := by rfl)
    (hg : Gl X "isinstance" := by rfl) (he : starEach [a, .Name m pu] X.env = (false, eval a X.env) :: starEach [.Name m pu] X.env := by rfl) (he2 : starEach [.Name m pu] X.env = (false, eval (.Name m pu) X.env) :: starEach [] X.env := by rfl) (hpl : (backTo pos (starEach [.Name m pu] X.env)).any (·.1) = false := by rfl)
    (hdb : (m == ("__debug__" : Str)) = false := by decide) : EvE X (.Call (.Name "isinstance" p) [a, .Name m pu] [] pos) Z rB true := fun G H σ Q E q =>
  toE (pe_callB call_isi hg hm (by decide +kernel) (pa_cons ce (pa_cons (pe_glob (v := .ref C) hgu hu rfl hdb) pa_nil he2) he) (he := he) (hpl := hpl)) (ha G H σ _ E fun G1 H1 v e1 h1 => by
    obtain ⟨o, dx, vfs, rfl, h2, h3, h4⟩ := h1
    refine ⟨.ref o, .ref C, .ref C, .ref C, true, rfl, .own C, .base ?_, ?_, q G1 H1 _ e1 rfl⟩
    · rcases e1.s o _ h2 with z | ⟨_, _, z, _⟩
      · exact .ins z hc hi.ha hi.hs hi.ht hi.hm
      · cases z
    · unfold PySem.W.kitOne
      rw [if_pos (by exact beq_self_eq_true _)])
end
end PL

namespace PL
open PySem PySem.Spec PyProof.Rows L2
/-! ### dicts that are made -/
section
variable {X : Cx} {Z : PL.Ctx} {α O : Type} {r : Rel α} {pos p : Pos} {a e : Expr} {D : O → Ends} {rest : List Stmt} {n : Str} {kvs : List (Text × α)}
def EvFD (X : Cx) (e : Expr) (Z : PL.Ctx) {α : Type} (r : Rel α) (kvs : List (Text × α)) : Prop :=
  ∀ G H σ Q, Env Z G H σ → (∀ G' H' o us, Ext G H G' H' → H o = none → G' o = none → H' o = some (.dK us) → Paired (ent r G') us kvs → kvs.length ≤ sizeLine → (kvs.map (·.1)).Nodup → Q (.ref o) H') → wE X e σ H Q
def EvFDM (X : Cx) (e : Expr) (Z : PL.Ctx) {α : Type} (r : Rel α) (m : Rs (List (Text × α))) : Prop := ∀ x, m = .ok x → EvFD X e Z r x
theorem efd_dict (hm : X.mg "dict" = none) (ha : EvE X a Z (rD r) kvs) (hg : Gl X "dict" := by rfl) (he : starEach [a] X.env = (false, eval a X.env) :: starEach [] X.env := by rfl) : EvFD X (.Call (.Name "dict" p) [a] [] pos) Z r kvs := fun G H σ Q E k =>
  toE (pe_callTy call_dictD hg hm (by decide +kernel) (pa_cons ce pa_nil he) (he := he)) (ha G H σ _ E fun G1 H1 v e1 h1 => by
    obtain ⟨d, us, rfl, h2, h3, h4⟩ := h1
    have rd : Rd H1 d (.dK us) := by
      rcases e1.s d _ h2 with z | ⟨od, us', z1, z⟩
      · exact .inl z
      · cases z1; exact .inr ⟨_, z⟩
    exact ⟨d, us, rfl, rd, fun o no => k G1 _ o us (e1.trans (.newM e1.s no)) (e1.h.free no) (e1.s.free no) upd_same h3 h4.1 h4.2⟩)
theorem en_d (h : EvFD X e Z r kvs) : EvN X e Z (fun o => .dic o r kvs) := ⟨fun _ => rfl, fun G H σ Q E k => h G H σ Q E fun G1 H1 o us q1 q2 q3 q4 q5 q6 q7 => k G1 H1 o _ q1 q2 q3 q4 ⟨us, rfl, q5, q6, q7⟩⟩
theorem ev_fd (h : EvFD X e Z r kvs) : EvE X e Z (rD r) kvs := fun G H σ Q E k => h G H σ Q E fun G1 H1 o us q1 q2 q3 q4 q5 q6 q7 => by
  have s1 : Same G1 (upd G1 o (.dK us)) := same_upd q3
  refine k (upd G1 o (.dK us)) H1 _ ⟨q1.g.trans s1, fun b u hb => ?_, q1.h, fun b hb hg => ?_⟩ ⟨o, us, rfl, upd_same, pmono (fun _ _ q => ⟨q.1, r.mono s1 q.2.1, q.2.2⟩) q5, q6, q7⟩
  · by_cases hbo : b = o
    · subst hbo; rw [upd_same] at hb; cases hb; exact .inl q4
    · rw [upd_ne hbo] at hb; exact q1.s b u hb
  · by_cases hbo : b = o
    · subst hbo; exact absurd q2 hb
    · rw [upd_ne hbo]; exact q1.n b hb hg
theorem goes_setN (i : Nat) {p' : Pos} {mk : Addr → Cell} {D : Ends} (nd : X.N.Nodup) (he : EvN X e Z mk) (h : ∀ o, Goes X rest ⟨Z.b, Z.sl.set i (.val rRef o), mk o :: Z.ce⟩ D) (hi : X.N[i]? = some n := by rfl) (hx : Loc X.env.scope n := by first | exact Or.inl rfl | exact Or.inr rfl)
    (hs : swapsWith e (some (.Name n p')) pos.line X.env = pure false := by rfl) (hf : X.fn n = true ∨ X.env.scope.names.lookup n = some .local := by first | exact .inl rfl | exact .inr rfl | assumption) : Goes X (.Assign [.Name n p'] e pos :: rest) Z D :=
  goes_of (ps_set nd hi hx ce hs hf) fun G H σ E => he.2 G H σ _ E fun G1 H1 o u e1 h1 h2 h3 h4 => by
    have E1 := (E.ext e1).setv (i := i) (s := .val rRef o) (ov := some (.ref o)) ⟨.ref o, rfl, rfl⟩
    refine h o G1 H1 _ ⟨E1.ex, E1.ab, E1.sl, fun c hc => ?_, ?_⟩
    · rcases List.mem_cons.mp hc with rfl | hc
      · exact ⟨by rw [he.1]; exact E.ex.h.free h1, by rw [he.1]; exact h2, u, by rw [he.1]; exact h3, h4⟩
      · exact E1.ce c hc
    · show ((mk o).addr :: Z.ce.map Cell.addr).Nodup
      rw [he.1]
      refine List.nodup_cons.mpr ⟨fun hm => ?_, E1.nd⟩
      obtain ⟨c, hc, hco⟩ := List.mem_map.mp hm
      obtain ⟨_, _, u, q3, _⟩ := E.ce c hc
      have hco' : c.addr = o := hco
      rw [hco', h1] at q3
      cases q3
theorem gm_setFD (i : Nat) {p' : Pos} {m : Rs (List (Text × α))} {g : List (Text × α) → Rs O} (nd : X.N.Nodup) (he : EvFDM X e Z r m) (h : ∀ kvs o, GM X rest ⟨Z.b, Z.sl.set i (.val rRef o), .dic o r kvs :: Z.ce⟩ D (g kvs)) (hi : X.N[i]? = some n := by rfl) (hx : Loc X.env.scope n := by first | exact Or.inl rfl | exact Or.inr rfl)
    (hs : swapsWith e (some (.Name n p')) pos.line X.env = pure false := by rfl) (hf : X.fn n = true ∨ X.env.scope.names.lookup n = some .local := by first | exact .inl rfl | exact .inr rfl | assumption) : GM X (.Assign [.Name n p'] e pos :: rest) Z D (m.bd g) := fun z q => by
  obtain ⟨kvs, q1, q2⟩ := Rs.bd_inv q
  exact goes_setN i nd (en_d (he kvs q1)) (fun o => h kvs o z q2) hi hx hs hf
theorem efdm_ok (h : EvFD X e Z r kvs) : EvFDM X e Z r (.ok kvs) := fun y q => by cases q; exact h
end
end PL

namespace PL
open PySem PySem.Spec PyProof.Rows L2
/-! ### a dict that is another's: told by the base, read and left as it is -/
section
variable {X : Cx} {Z : PL.Ctx} {α β : Type} {r : Rel α} {s : Rel β} {y : β} {e : Expr} {kvs : List (Text × α)}
structure Frn (Z : PL.Ctx) (l : Addr) (r : Rel α) (us : List (Key × V)) (kvs : List (Text × α)) : Prop where
  h : Z.b.H0 l = some (.dK us)
  g : Z.b.G0 l = none
  p : Paired (ent r Z.b.G0) us kvs
  n : kvs.length ≤ sizeLine
  d : (kvs.map (·.1)).Nodup
theorem Env.lentF {G H : Hp} {σ : L2.St} {i : Nat} {l : Addr} {us : List (Key × V)} (E : Env Z G H σ) (F : Frn Z l r us kvs) (hz : Z.sl[i]? = some (.val rRef l)) :
    G l = none ∧ Env ⟨⟨upd Z.b.G0 l (.dK us), Z.b.H0, Z.b.ab⟩, Z.sl.set i (.val (rD r) kvs), Z.ce⟩ (upd G l (.dK us)) H σ := by
  have hG : G l = none := E.ex.n l (by rw [F.h]; exact fun z => by cases z) F.g
  have hH := E.ex.h _ _ F.h
  have s1 : Same G (upd G l (.dK us)) := same_upd hG
  have ne : ∀ c ∈ Z.ce, c.addr ≠ l := fun c hc z => by
    have := (E.ce c hc).1
    rw [z, F.h] at this; cases this
  obtain ⟨v, g1, g2⟩ := E.get hz
  obtain rfl : v = .ref l := g2
  have E0 : Env ⟨⟨upd Z.b.G0 l (.dK us), Z.b.H0, Z.b.ab⟩, Z.sl, Z.ce⟩ (upd G l (.dK us)) H σ := by
    refine ⟨⟨fun b u q => ?_, fun b u q => ?_, E.ex.h, fun b q1 q2 => ?_⟩, fun B hB => (E.ab B hB).trans s1, fun k sl hk => ?_, fun c hc => ?_, E.nd⟩
    · by_cases hb : b = l
      · subst hb
        have q : upd Z.b.G0 b (.dK us) b = some u := q
        rw [upd_same] at q ⊢; exact q
      · have q : upd Z.b.G0 l (.dK us) b = some u := q
        rw [upd_ne hb] at q ⊢; exact E.ex.g b u q
    · by_cases hb : b = l
      · subst hb; rw [upd_same] at q; cases q; exact .inl hH
      · rw [upd_ne hb] at q; exact E.ex.s b u q
    · by_cases hb : b = l
      · subst hb
        have q2 : upd Z.b.G0 b (.dK us) b = none := q2
        rw [upd_same] at q2; cases q2
      · have q2 : upd Z.b.G0 l (.dK us) b = none := q2
        rw [upd_ne hb] at q2 ⊢; exact E.ex.n b q1 q2
    · obtain ⟨ov, k1, k2⟩ := E.sl k sl hk
      exact ⟨ov, k1, Slot.ok_mono s1 k2⟩
    · obtain ⟨c0, cG, u, cH, cI⟩ := E.ce c hc
      exact ⟨c0, by rw [upd_ne (ne c hc)]; exact cG, u, cH, Cell.is_mono s1 cI⟩
  have E3 := E0.setv (i := i) (s := .val (rD r) kvs) (ov := some (.ref l)) ⟨.ref l, rfl, l, us, rfl, upd_same, pmono (fun _ _ q => ⟨q.1, r.mono (E.ex.g.trans s1) q.2.1, q.2.2⟩) F.p, F.n, F.d⟩
  have e : σ.set i (some (.ref l)) = σ := by
    apply List.ext_getElem?
    intro k
    by_cases hk : i = k
    · subst hk
      have hl := (List.getElem?_eq_some_iff.mp g1).1
      rw [List.getElem?_set_self hl, g1]
    · rw [List.getElem?_set_ne hk]
  rw [e] at E3
  exact ⟨hG, E3⟩
end
end PL

namespace PL
open PySem PySem.Spec PyProof.Rows L2
/-! ### __init__ whose promise looks at the heap (foreign dicts) -/
def spIH (C : Addr) (Pr : Hp → Hp → List Slot → List (Str × Slot) → Prop) : Sp := fun vs H Q _ => ∃ (o dx : Addr) (us : List V) (ss : List Slot) (fs : List (Str × Slot)) (G : Hp), vs = .ref o :: us ∧ Pr G (hid H o) ss fs ∧ SmF G H ∧ H o = some (.ins C dx []) ∧ G o = none ∧ G dx = some (.own o) ∧ Slv G us ss ∧
  ∀ G' H' vfs, Ext G (hid H o) G' H' → G' o = none → H' o = some (.ins C dx vfs) → Flds G' vfs fs → Q .non H'
section
variable {P : Program} {w : World} {K : PySem.W.Frag} {mg : Str → Option Value} {base : Heap}
theorem fn_iH {x qual : Str} {st : Stmt} {f C : Addr} {fd : FuncData} {N ps : List Str} {k : Nat} {Pr : Hp → Hp → List Slot → List (Str × Slot) → Prop} (F : FunD K x qual (defArgs st) (defBody st) (defScope st) [] [] f fd) (S : FnScope N ps (defScope st)) (len : ∀ G H ss fs, Pr G H ss fs → ss.length + 1 = ps.length)
    (body : ∀ (cdv : Value) (A : Around) (outer : List PySem.Env) (s : Shared) (H : Hp) (E : XK) (G : Hp) (o dx : Addr) (ss : List Slot) (fs : List (Str × Slot)), Room k (A.deeper (envOfC qual (defScope st) s.heap.objs.size f cdv)) → Pr G (hid H o) ss fs →
      Goes (cxOf CX0 P w K mg base N qual (defScope st) f cdv A outer s H E).nox (defBody st) ⟨⟨G, hid H o, []⟩, (.val rRef o :: ss) ++ List.replicate (N.length - (ss.length + 1)) .any, [.ins o dx C []]⟩ (retI G H o dx C fs)) : FnOk P w K mg base CX0 (k + 1) f fd ps (spIH C Pr) := by
  refine F.ok S (fun vs H Q E h => ?_) (fun cdv A outer s H vs Q E hr h => ?_)
  · obtain ⟨o, dx, us, ss, fs, G, rfl, h1, h2, h3, h4, h5, h6, h7⟩ := h
    rw [List.length_cons, slv_len h6, len _ _ ss fs h1]
  · obtain ⟨o, dx, us, ss, fs, G, rfl, h1, h2, h3, h4, h5, h6, h7⟩ := h
    refine ⟨wSs _ _, PSs.nox css, ?_⟩
    constructor
    intro pins s' I
    have sl : Slv G (.ref o :: us) (.val rRef o :: ss) := .cons rfl h6
    have st0 := env_start (N := N) h2 sl
    have E0 : Env ⟨⟨G, hid H o, []⟩, (.val rRef o :: ss) ++ List.replicate (N.length - (ss.length + 1)) .any, [.ins o dx C []]⟩ G H (L2.start N (.ref o :: us)) := by
      refine ⟨⟨Same.refl _, h2, hid_sub H o, fun b _ z => z⟩, (fun B hB => by cases hB), st0.sl, fun c hc => ?_, by simp⟩
      rw [List.mem_singleton.mp hc]
      exact ⟨hid_same, h4, _, h3, h5, [], rfl, .nil⟩
    refine thn ((body cdv A outer s H E G o dx ss fs hr h1 G H (L2.start N (.ref o :: us)) E0).run pins s' I) fun fl s1 hq => ?_
    cases fl with
    | next =>
      obtain ⟨σ', H', I', G', vfs, q1, q2, q3, q4⟩ := hq
      exact ⟨σ', H', I', h7 G' H' vfs q1 q2 q3 q4⟩
    | brk => exact hq
    | cont => exact hq
    | ret u =>
      obtain ⟨v, σ', H', I', rv, rfl, G', vfs, q1, q2, q3, q4⟩ := hq
      exact ⟨_, σ', H', I', rv, h7 G' H' vfs q1 q2 q3 q4⟩
end
section
variable {X : Cx} {Z : PL.Ctx} {α : Type} {x : α} {pos p : Pos} {e : Expr} {es : List Expr} {n : Str} {k : Nat} {C : Addr}
theorem ev_makeH {Pr : Hp → Hp → List Slot → List (Str × Slot) → Prop} {fs : α → List (Str × Slot)} {ss : List Slot} (M : MakeOk X.prog X.w X.K X.mg X.base n C k (spIH C Pr)) (hr : Room (k + 1) X.A) (ha : EvA X (e :: es) Z ss)
    (hP : ∀ G H σ, Env Z G H σ → ∀ G' H', Same G G' → Same H H' → (∀ b, H b ≠ none → G b = none → G' b = none) → Pr G' H' ss (fs x))
    (hg : Gl X n := by rfl) (hdb : (n == ("__debug__" : Str)) = false := by decide) (he : starEach (e :: es) X.env = (false, eval e X.env) :: starEach es X.env := by rfl) (hpl : (backTo pos (starEach es X.env)).any (·.1) = false := by rfl) :
    EvE X (.Call (.Name n p) (e :: es) [] pos) Z (rObj C fs) x := fun G H σ Q E q => by
  obtain ⟨f, fd, ps, F, hm, hk, hb⟩ := M
  refine toE (pe_make (E := fun _ _ _ => False) hk F hr hg hm hb .nil pass0 ca hdb he hpl) (ha G H σ _ E fun G1 H1 vs e1 h1 => fun l dx nl nd ne => ?_)
  have gl : G1 l = none := e1.s.free nl
  have gd : G1 dx = none := e1.s.free nd
  have s1 : Same G1 (upd G1 dx (.own l)) := same_upd gd
  have hpr : Pr (upd G1 dx (.own l)) (hid (upd (upd H1 dx (.own l)) l (.ins C dx [])) l) ss (fs x) := by
    refine hP G1 H1 σ (E.ext e1) _ _ s1 (fun b u hb => ?_) fun b hb hg => ?_
    · have hbl : b ≠ l := ne_of_none hb nl
      have hbd : b ≠ dx := ne_of_none hb nd
      rw [hid_ne hbl, upd_ne hbl, upd_ne hbd]
      exact hb
    · have hbd : b ≠ dx := fun z => hb (z ▸ nd)
      rw [upd_ne hbd]
      exact hg
  refine ⟨l, dx, vs, ss, fs x, upd G1 dx (.own l), by rw [List.append_nil], hpr, fun b u hb => ?_, upd_same, by rw [upd_ne (Ne.symm ne)]; exact gl, upd_same, h1.mono s1, fun G2 H2 vfs e2 g1 g2 g3 => ⟨rfl, ?_⟩⟩
  · by_cases hbd : b = dx
    · subst hbd
      rw [upd_same] at hb
      rw [upd_ne ne, upd_same]
      exact .inl hb
    · rw [upd_ne hbd] at hb
      have hbl : b ≠ l := fun z => by rw [z, gl] at hb; cases hb
      rw [upd_ne hbl, upd_ne hbd]
      exact e1.s _ _ hb
  · have s2 : Same G2 (upd G2 l (.ins C dx vfs)) := same_upd g1
    refine q (upd G2 l (.ins C dx vfs)) H2 (.ref l) ⟨(e1.g.trans s1).trans (e2.g.trans s2), fun b u hb => ?_, fun b u hb => ?_, fun b hb hg => ?_⟩ ⟨l, dx, vfs, rfl, upd_same, s2 _ _ (e2.g _ _ upd_same), g3.mono s2⟩
    · by_cases hbl : b = l
      · subst hbl
        rw [upd_same] at hb
        rw [← hb]
        exact .inl g2
      · rw [upd_ne hbl] at hb
        exact e2.s _ _ hb
    · have hb1 := e1.h _ _ hb
      have hbl : b ≠ l := ne_of_none hb1 nl
      have hbd : b ≠ dx := ne_of_none hb1 nd
      refine e2.h _ _ ?_
      rw [hid_ne hbl, upd_ne hbl, upd_ne hbd]
      exact hb1
    · have hb1 : H1 b ≠ none := nn_same e1.h hb
      have hbl : b ≠ l := fun z => hb1 (z ▸ nl)
      have hbd : b ≠ dx := fun z => hb1 (z ▸ nd)
      rw [upd_ne hbl]
      refine e2.n b ?_ ?_
      · rw [hid_ne hbl, upd_ne hbl, upd_ne hbd]
        exact hb1
      · rw [upd_ne hbd]
        exact e1.n b hb hg
end
end PL

namespace PL
open PySem PySem.Spec PyProof.Rows L2
/-! ### nested data (tuples within tuples) whose form is found at run time -/
mutual
def okPB : PyData → Bool
  | .none => true
  | .bool _ => true
  | .int _ => true
  | .str x => decide (x.cps.toList.length ≤ sizeLine) && x.cps.toList.all fun c => decide (c < 1114112)
  | .list _ => false
  | .tuple xs => decide (xs.length ≤ sizeLine) && okPBs xs
  | .dict _ => false
def okPBs : List PyData → Bool
  | [] => true
  | d :: ds => okPB d && okPBs ds
end
/-! ### readings as others -/
section
variable {K : PySem.W.Frag} {α β γ δ ε : Type} {r : Rel α} {s : Rel β} {t : Rel γ} {u : Rel δ}
/-! to data -/
end
section
variable {X : Cx} {Z : PL.Ctx} {α β γ O : Type} {r : Rel α} {x : α} {pos p : Pos} {a b e : Expr} {d d' : PyData} {i : Int} {k : Nat}
end
end PL

namespace PL
open PySem PySem.Spec PyProof.Rows L2
/-! ### classes without an __init__ of their own; isinstance by a class's words; calls of weaker promises -/
structure Mk0 (K : PySem.W.Frag) (C : Addr) : Prop where
  makes : PySem.W.makesIn K C = true
  init : PySem.W.findIn K (.ref C) "__init__" = some (some (.builtin "object.__init__"))
  kp : PySem.W.keepIn K (.ref C) = true
section
variable {X : Cx} {C : Addr} {x : Str} {p pos : Pos}
end
section
variable {P : Program} {w : World} {K : PySem.W.Frag} {mg : Str → Option Value} {base : Heap} {n m : Str} {C : Addr} {j k : Nat} {sp sp' : Sp}
theorem CallOk.up (h : CallOk P w K mg base n j sp) (le : j ≤ k) : CallOk P w K mg base n k sp := by
  obtain ⟨f, fd, ps, F, r⟩ := h
  exact ⟨f, fd, ps, F.mono le, r⟩
theorem MethOk.up (h : MethOk P w K mg base C m j sp) (le : j ≤ k) : MethOk P w K mg base C m k sp := by
  obtain ⟨f, fd, ps, F, r⟩ := h
  exact ⟨f, fd, ps, F.mono le, r⟩
end
/-! ### isinstance of an instance by another class -/
section
variable {X : Cx} {Z : PL.Ctx} {α β O : Type} {r : Rel α} {x : α} {pos p : Pos} {a : Expr}
end
end PL

namespace PL
open PySem PySem.Spec PyProof.Rows L2
/-! ### written tuples; isinstance by words of the classes -/
def kitAllB (K : PySem.W.Frag) (D : Addr) (l : List (Str × Bool)) : Bool := l.all fun q => decide (PySem.W.kitOne K (.ref (He.ga K q.1)) (.ref D) = some q.2)
def isAllB (K : PySem.W.Frag) (l : List Str) : Bool := l.all fun q => isCB K (He.ga K q)
theorem is_at {K : PySem.W.Frag} {l : List Str} (h : isAllB K l = true) (i : Nat) {C : Str} (hi : l[i]? = some C := by rfl) : IsC K (He.ga K C) := isC_ok (List.all_eq_true.mp h _ (List.mem_of_getElem? hi))
section
variable {X : Cx} {Z : PL.Ctx} {p : Pos} {n : Str} {a : Addr}
end
end PL

namespace PL
open PySem PySem.Spec PyProof.Rows L2
/-! ### a name that a loop may or may not have set -/
def optR {α : Type} : Option α → Rs α
  | none => .no
  | some x => .ok x
end PL

namespace PL
open PySem PySem.Spec PyProof.Rows L2
/-! ### dict(pairs) -/
section
variable {X : Cx} {Z : PL.Ctx} {α : Type} {r : Rel α} {pos p : Pos} {a : Expr}
theorem dmrg_fold {α : Type} {r : Rel α} {G : Hp} : ∀ (ps : List (Text × α)) (us : List (Key × V)) (acc : List (Text × α)) (vs : List (Key × V)), Paired (ent r G) us acc → (acc.map (·.1)).Nodup → Paired (ent r G) vs ps →
    Paired (ent r G) (mergeK us vs) (ps.foldl (fun acc q => dput acc q.1 q.2) acc) ∧ ((ps.foldl (fun acc q => dput acc q.1 q.2) acc).map (·.1)).Nodup ∧ (ps.foldl (fun acc q => dput acc q.1 q.2) acc).length ≤ acc.length + ps.length
  | [], us, acc, vs, h1, h2, h3 => by
    cases h3
    exact ⟨h1, h2, Nat.le_refl _⟩
  | q :: ps, us, acc, vs, h1, h2, h3 => by
    cases h3 with
    | @cons kv _ vs _ hh ht =>
      obtain ⟨k, v⟩ := kv
      obtain ⟨e1, e2, e3⟩ := hh
      have e1 : k = Sum.inr (mkS q.1) := e1
      subst e1
      obtain ⟨a1, a2, a3⟩ := dmrg_fold ps (putK us (Sum.inr (mkS q.1) : Key) v) (dput acc q.1 q.2) vs (ent_put e2 e3 h1 h2) (dput_nd h2) ht
      refine ⟨a1, a2, Nat.le_trans a3 ?_⟩
      have := dput_len q.1 q.2 acc
      rw [List.length_cons]
      omega
end
end PL

namespace PL
open PySem PySem.Spec PyProof.Rows L2
/-! ### None or a thing, read as the thing; empty lists; data by their types -/
section
variable {X : Cx} {Z : PL.Ctx} {α β γ O S : Type} {r : Rel α} {s : Rel β} {x : α} {pos p p2 apos : Pos} {a b e : Expr} {d : PyData} {k : Nat} {t u : Text} {Zs : S → PL.Ctx}
theorem em_opt {y : Option α} (h : EvE X e Z (rO r) y) : EvM X e Z r (optR y) := fun x hx G H σ Q E k => h G H σ Q E fun G1 H1 v e1 h1 => by
  cases y with
  | none => cases hx
  | some z =>
    cases hx
    rcases h1 with ⟨_, q⟩ | ⟨z', q, h1⟩
    · cases q
    · cases q
      exact k G1 H1 v e1 h1
/-! data -/
/-! with a state -/
/-! texts -/
/-! a dict that is written out -/
inductive DispC : List (Option Expr) → List Expr → List (Text × Text) → Prop
  | nil : DispC [] [] []
  | cons {k v : Str} {j j' : Nat} {p p' : Pos} {ks : List (Option Expr)} {vs : List Expr} {kvs : List (Text × Text)} : DispC ks vs kvs → DispC (some (.Constant (.str k) j p) :: ks) (.Constant (.str v) j' p' :: vs) ((tx k, tx v) :: kvs)
end
section
variable {X : Cx} {Z : PL.Ctx} {α β O S : Type} {r : Rel α} {pos p px : Pos} {a b e : Expr} {es : List Expr} {rest : List Stmt} {D : O → Ends} {n : Str} {Zs : S → PL.Ctx}
end
theorem upd_hid {G : Hp} {o : Addr} {u : HO} (h : G o = some u) : upd (hid G o) o u = G := by
  funext b
  by_cases e : b = o
  · rw [e, upd_same, h]
  · rw [upd_ne e, hid_ne e]
section
variable {X : Cx} {Z : PL.Ctx} {α ζ τ : Type} {r : Rel α} {rt : Rel τ} {pos p : Pos} {es : List Expr} {n v : Str} {k : Nat} {Zl : List τ → PL.Ctx}
end
end PL

namespace PL
open PySem PySem.Spec PyProof.Rows L2
/-! ### the scope of a def, seen by the kernel alone -/
def isFnK : ScopeKind → Bool
  | .function => true
  | _ => false
def isFreeK : NameKind → Bool
  | .free => true
  | _ => false
def isLocK : Option NameKind → Bool
  | some .local => true
  | some .cell => true
  | _ => false
def scB (N P : List Str) (sc : Scope) : Bool := isFnK sc.kind && (!sc.isCoroutine && (!sc.isGenerator && (decide N.Nodup && (decide (N.take P.length = P) && ((P.all fun x => isLocK (sc.names.lookup x)) && (sc.names.all fun y => !isFreeK y.2))))))
theorem scp_of {N P : List Str} {sc : Scope} (h : scB N P sc = true) : FnScope N P sc := by
  unfold scB at h
  simp only [Bool.and_eq_true, Bool.not_eq_true', List.all_eq_true, decide_eq_true_eq] at h
  obtain ⟨h1, h2, h3, h4, h5, h6, h7⟩ := h
  refine ⟨?_, h2, h3, h4, h5, fun x hx => ?_, fun y hy z => ?_⟩
  · cases e : sc.kind <;> rw [e] at h1 <;> first | rfl | cases h1
  · have := h6 x hx
    cases e : sc.names.lookup x with
    | none => rw [e] at this; cases this
    | some k =>
      rw [e] at this
      cases k <;> first | exact .inl rfl | exact .inr rfl | cases this
  · have := h7 y hy
    rw [z] at this
    cases this
end PL

namespace PL
open PySem PySem.Spec PyProof.Rows L2
/-! ### what the top has left: the objects are found once each, by a mask -/
def dupM : List Addr → Nat → List Addr
  | [], _ => []
  | a :: r, m => bif ((m >>> a) % 2 == 1) then dupM r m else a :: dupM r (m ||| (1 <<< a))
def growM (g : Addr → Option Obj) (as : List Addr) : List Addr := dupM (as ++ as.flatMap fun a => match g a with
  | some o => He.refsD o
  | none => []) 0
def asM (g : Addr → Option Obj) : Nat → List Addr
  | 0 => [mainGlobals]
  | n + 1 => growM g (asM g n)
def obsY (n : Nat) (fa : List He.Fa) (fn : List He.DefD) (ck : PySem.W.Frag → Bool) (g : Addr → Option Obj) : He.AlD × Bool := let K := He.frG g (asM g n); (He.obsD fa fn K, ck K)
def hookY (n : Nat) (fa : List He.Fa) (fn : List He.DefD) (ck : PySem.W.Frag → Bool) : PySem.W.Hook where
  α := He.AlD × Bool
  obs := fun s => obsY n fa fn ck s.heap.get?
  val := fun _ => (He.valD fn, true)
  says := fun _ h => ∃ K : PySem.W.Frag, K.In h ∧ He.SaysD fa fn K ∧ ck K = true
  of := fun _ _ e => ⟨_, He.frG_in, congrArg (fun z : He.AlD × Bool => z.1) e, congrArg (fun z : He.AlD × Bool => z.2) e⟩
  keeps := fun _ _ _ ⟨K, hK, c⟩ k => ⟨K, PySem.W.Frag.In.keeps hK k, c⟩
theorem obsY_eq {n : Nat} {fa : List He.Fa} {fn : List He.DefD} {ck : PySem.W.Frag → Bool} {g : Addr → Option Obj} {s : Shared} (h : ∀ a, g a = s.heap.get? a) : obsY n fa fn ck g = (hookY n fa fn ck).obs s := by
  have e : g = s.heap.get? := funext h
  rw [e] <;> rfl
end PL

/-! ### the run of a law's top, in two looks -/
namespace PL
open PySem PySem.W PySem.Calls PyProof.Rows HandSHeadRun
theorem opt_three {α β γ δ : Type} {o : Option α} {f : α → β} {g : α → γ} {h : α → δ} {a : β} {b : γ} {c : δ} (h1 : o.map (fun s => (f s, g s)) = some (a, b)) (h2 : o.map h = some c) : o.map (fun s => (f s, g s, h s)) = some (a, b, c) := by
  cases o with
  | none => cases h2
  | some s =>
    cases h1
    cases h2
    rfl
def RunA (r : OpenRow) (q : Program) (M : Nat) (loose : List PySem.Str) (w : World) : Prop :=
  ∀ os : OsState, (endF (stepQ (denQ tabQ) r.prog w) M r.prog w os).map (fun s => (looksF r.prog (boot_heap w.params) s.abs, HandSHeadRun.seenQ q loose (importedModules r.prog.main.body) (fun s => xlAt q [] s && recOk r.toRowW.records s) s.abs)) = some (true, openGood q loose)
def RunB (r : OpenRow) (H : Hook) (ob : SharedT → H.α) (M : Nat) (w : World) : Prop :=
  ∀ os : OsState, (endF (stepQ (denQ tabQ) r.prog w) M r.prog w os).map (fun s => ob s) = some (H.val w)
theorem run_of {r : OpenRow} {q : Program} {H : Hook} {ob : SharedT → H.α} {M : Nat} {loose : List PySem.Str} {w : World} (a : RunA r q M loose w) (b : RunB r H ob M w) : RunEq r q H ob M loose w := fun os => opt_three (a os) (b os)
end PL

namespace PL
open PySem PySem.Spec PyProof.Rows L2
section
variable {X : Cx} {Z : PL.Ctx} {α β γ δ S : Type} {r : Rel α} {s : Rel β} {t : Rel γ} {u : Rel δ} {pos : Pos} {a b c d : Expr} {kk : Nat} {Zs : S → PL.Ctx} {m1 : Rs (α × S)} {m2 : α × S → Rs (β × S)} {m3 : α × S → β × S → Rs (γ × S)} {m4 : α × S → β × S → γ × S → Rs (δ × S)}
/-! ### tuples, the state changes on the way -/
theorem es_T3 (ha : EvS X a Z Zs r m1) (hb : ∀ q, EvS X b (Zs q.2) Zs s (m2 q)) (hc : ∀ q q', EvS X c (Zs q'.2) Zs t (m3 q q')) (h1 : starEach [a, b, c] X.env = (false, eval a X.env) :: starEach [b, c] X.env := by rfl) (h2 : starEach [b, c] X.env = (false, eval b X.env) :: starEach [c] X.env := by rfl) (h3 : starEach [c] X.env = (false, eval c X.env) :: starEach [] X.env := by rfl) :
    EvS X (.Tuple [a, b, c] kk pos) Z Zs (rT3 X.K r s t) (m1.bd fun x => (m2 x).bd fun y => (m3 x y).bd fun z => .ok ((x.1, y.1, z.1), z.2)) := by
  have h := es_tup3 (kk := kk) (pos := pos) (eas_cons ha (fun q => eas_cons (hb q) (fun q' => eas_cons (hc q q') (fun q => eas_nil (Zs := Zs) q.2) h3) h2) h1)
  simp only [Rs.bd_as, Rs.bd_ok] at h
  exact h
end
end PL

namespace PL
open PySem PySem.W PySem.Calls PyProof.Rows HandSHeadRun
/-! ### what the top has left, looked at in parts -/
theorem opt_two {α β γ : Type} {o : Option α} {f : α → β} {g : α → γ} {a : β} {b : γ} (h1 : o.map (fun s => f s) = some a) (h2 : o.map (fun s => g s) = some b) : o.map (fun s => (f s, g s)) = some (a, b) := by
  cases o with
  | none => cases h2
  | some s =>
    cases h1
    cases h2
    rfl
def RunC {β : Type} (r : OpenRow) (f : SharedT → β) (b : β) (M : Nat) (w : World) : Prop := ∀ os : OsState, (endF (stepQ (denQ tabQ) r.prog w) M r.prog w os).map (fun s => f s) = some b
theorem runB_of {n : Nat} {fa : List He.Fa} {fn : List He.DefD} {ck : PySem.W.Frag → Bool} {r : OpenRow} {M : Nat} {w : World}
    (h1 : RunC r (fun s => He.obsD fa fn (He.frG (getT s) (asM (getT s) n))) (He.valD fn) M w) (h2 : RunC r (fun s => ck (He.frG (getT s) (asM (getT s) n))) true M w) :
    RunB r (hookY n fa fn ck) (fun s => obsY n fa fn ck (getT s)) M w := fun os => opt_two (h1 os) (h2 os)
end PL

namespace Tp
open PySem PySem.Spec PyProof.Rows L2 PL
def top (i : Nat) : Stmt := PySem.Challenge.pw_shownranks_k31_layers_poured.main.body.getD i (.Pass ⟨0, 0, 0, 0⟩)
abbrev s__wall : Stmt := top 0
def d__wall : He.DefD := ⟨("_wall", none), "_wall", "_wall", defArgs s__wall, defBody s__wall, defScope s__wall, [], []⟩
abbrev s_Layer_init : Stmt := inClass (top 2) 0
theorem sc_Layer_init : FnScope ["self", "rulebook", "texts", "gone"] ["self", "rulebook", "texts", "gone"] (defScope s_Layer_init) := scp_of (by kernel_rfl)
abbrev F_Layer_init (K : PySem.W.Frag) (f : Addr) (fd : FuncData) : Prop := FunD K "__init__" "Layer.__init__" (defArgs s_Layer_init) (defBody s_Layer_init) (defScope s_Layer_init) [] [] f fd
def d_Layer_init : He.DefD := ⟨("Layer", some "__init__"), "__init__", "Layer.__init__", defArgs s_Layer_init, defBody s_Layer_init, defScope s_Layer_init, [], []⟩
abbrev s_Layer_names : Stmt := inClass (top 2) 1
theorem sc_Layer_names : FnScope ["self"] ["self"] (defScope s_Layer_names) := scp_of (by kernel_rfl)
abbrev F_Layer_names (K : PySem.W.Frag) (f : Addr) (fd : FuncData) : Prop := FunD K "names" "Layer.names" (defArgs s_Layer_names) (defBody s_Layer_names) (defScope s_Layer_names) [] [] f fd
def d_Layer_names : He.DefD := ⟨("Layer", some "names"), "names", "Layer.names", defArgs s_Layer_names, defBody s_Layer_names, defScope s_Layer_names, [], []⟩
abbrev s_Layer_gone : Stmt := inClass (top 2) 2
theorem sc_Layer_gone : FnScope ["self"] ["self"] (defScope s_Layer_gone) := scp_of (by kernel_rfl)
abbrev F_Layer_gone (K : PySem.W.Frag) (f : Addr) (fd : FuncData) : Prop := FunD K "gone" "Layer.gone" (defArgs s_Layer_gone) (defBody s_Layer_gone) (defScope s_Layer_gone) [] [] f fd
def d_Layer_gone : He.DefD := ⟨("Layer", some "gone"), "gone", "Layer.gone", defArgs s_Layer_gone, defBody s_Layer_gone, defScope s_Layer_gone, [], []⟩
abbrev s_Layer_texts : Stmt := inClass (top 2) 3
theorem sc_Layer_texts : FnScope ["self"] ["self"] (defScope s_Layer_texts) := scp_of (by kernel_rfl)
abbrev F_Layer_texts (K : PySem.W.Frag) (f : Addr) (fd : FuncData) : Prop := FunD K "texts" "Layer.texts" (defArgs s_Layer_texts) (defBody s_Layer_texts) (defScope s_Layer_texts) [] [] f fd
def d_Layer_texts : He.DefD := ⟨("Layer", some "texts"), "texts", "Layer.texts", defArgs s_Layer_texts, defBody s_Layer_texts, defScope s_Layer_texts, [], []⟩
abbrev s_poured : Stmt := top 3
theorem sc_poured : FnScope ["lower", "upper", "texts", "gone", "name", "parts"] ["lower", "upper"] (defScope s_poured) := scp_of (by kernel_rfl)
abbrev F_poured (K : PySem.W.Frag) (f : Addr) (fd : FuncData) : Prop := FunD K "poured" "poured" (defArgs s_poured) (defBody s_poured) (defScope s_poured) [] [] f fd
def d_poured : He.DefD := ⟨("poured", none), "poured", "poured", defArgs s_poured, defBody s_poured, defScope s_poured, [], []⟩
abbrev s_lowest : Stmt := top 4
theorem sc_lowest : FnScope ["layer"] ["layer"] (defScope s_lowest) := scp_of (by kernel_rfl)
abbrev F_lowest (K : PySem.W.Frag) (f : Addr) (fd : FuncData) : Prop := FunD K "lowest" "lowest" (defArgs s_lowest) (defBody s_lowest) (defScope s_lowest) [] [] f fd
def d_lowest : He.DefD := ⟨("lowest", none), "lowest", "lowest", defArgs s_lowest, defBody s_lowest, defScope s_lowest, [], []⟩
abbrev s_rule_is_of : Stmt := top 14
theorem sc_rule_is_of : FnScope ["word", "signs", "least", "most", "sign"] ["word", "signs", "least", "most"] (defScope s_rule_is_of) := scp_of (by kernel_rfl)
abbrev F_rule_is_of (K : PySem.W.Frag) (f : Addr) (fd : FuncData) : Prop := FunD K "rule_is_of" "rule_is_of" (defArgs s_rule_is_of) (defBody s_rule_is_of) (defScope s_rule_is_of) [] [] f fd
def d_rule_is_of : He.DefD := ⟨("rule_is_of", none), "rule_is_of", "rule_is_of", defArgs s_rule_is_of, defBody s_rule_is_of, defScope s_rule_is_of, [], []⟩
abbrev s_rule_fits : Stmt := top 15
theorem sc_rule_fits : FnScope ["ending", "instead", "least"] ["ending", "instead", "least"] (defScope s_rule_fits) := scp_of (by kernel_rfl)
abbrev F_rule_fits (K : PySem.W.Frag) (f : Addr) (fd : FuncData) : Prop := FunD K "rule_fits" "rule_fits" (defArgs s_rule_fits) (defBody s_rule_fits) (defScope s_rule_fits) [] [] f fd
def d_rule_fits : He.DefD := ⟨("rule_fits", none), "rule_fits", "rule_fits", defArgs s_rule_fits, defBody s_rule_fits, defScope s_rule_fits, [], []⟩
abbrev s_Rulebook_init : Stmt := inClass (top 16) 0
theorem sc_Rulebook_init : FnScope ["self", "endings", "silent", "ending", "instead", "least", "word"] ["self", "endings", "silent"] (defScope s_Rulebook_init) := scp_of (by kernel_rfl)
abbrev F_Rulebook_init (K : PySem.W.Frag) (f : Addr) (fd : FuncData) : Prop := FunD K "__init__" "Rulebook.__init__" (defArgs s_Rulebook_init) (defBody s_Rulebook_init) (defScope s_Rulebook_init) [] [] f fd
def d_Rulebook_init : He.DefD := ⟨("Rulebook", some "__init__"), "__init__", "Rulebook.__init__", defArgs s_Rulebook_init, defBody s_Rulebook_init, defScope s_Rulebook_init, [], []⟩
abbrev s_Rulebook_brought : Stmt := inClass (top 16) 1
def d_Rulebook_brought : He.DefD := ⟨("Rulebook", some "brought"), "brought", "Rulebook.brought", defArgs s_Rulebook_brought, defBody s_Rulebook_brought, defScope s_Rulebook_brought, [], []⟩
abbrev s_Rulebook_is_silent : Stmt := inClass (top 16) 2
def d_Rulebook_is_silent : He.DefD := ⟨("Rulebook", some "is_silent"), "is_silent", "Rulebook.is_silent", defArgs s_Rulebook_is_silent, defBody s_Rulebook_is_silent, defScope s_Rulebook_is_silent, [], []⟩
abbrev s_law_nth : Stmt := top 18
theorem sc_law_nth : FnScope ["_law_script", "_law_k"] ["_law_script", "_law_k"] (defScope s_law_nth) := scp_of (by kernel_rfl)
abbrev F_law_nth (K : PySem.W.Frag) (f : Addr) (fd : FuncData) : Prop := FunD K "_law_nth" "_law_nth" (defArgs s_law_nth) (defBody s_law_nth) (defScope s_law_nth) [] [] f fd
def d_law_nth : He.DefD := ⟨("_law_nth", none), "_law_nth", "_law_nth", defArgs s_law_nth, defBody s_law_nth, defScope s_law_nth, [], []⟩
abbrev s_law_tape : Stmt := top 19
theorem sc_law_tape : FnScope ["_law_cell", "_law_plain", "_law_number"] ["_law_cell", "_law_plain"] (defScope s_law_tape) := scp_of (by kernel_rfl)
abbrev F_law_tape (K : PySem.W.Frag) (f : Addr) (fd : FuncData) : Prop := FunD K "_law_tape" "_law_tape" (defArgs s_law_tape) (defBody s_law_tape) (defScope s_law_tape) [] [] f fd
def d_law_tape : He.DefD := ⟨("_law_tape", none), "_law_tape", "_law_tape", defArgs s_law_tape, defBody s_law_tape, defScope s_law_tape, [], []⟩
abbrev s_law_digit : Stmt := top 20
theorem sc_law_digit : FnScope ["_law_tape_here", "_law_many", "_law_k", "_law_digit_here"] ["_law_tape_here", "_law_many"] (defScope s_law_digit) := scp_of (by kernel_rfl)
abbrev F_law_digit (K : PySem.W.Frag) (f : Addr) (fd : FuncData) : Prop := FunD K "_law_digit" "_law_digit" (defArgs s_law_digit) (defBody s_law_digit) (defScope s_law_digit) [] [] f fd
def d_law_digit : He.DefD := ⟨("_law_digit", none), "_law_digit", "_law_digit", defArgs s_law_digit, defBody s_law_digit, defScope s_law_digit, [], []⟩
abbrev s_law_name : Stmt := top 21
theorem sc_law_name : FnScope ["_law_tape_here", "_law_old", "_law_most", "_law_name_here", "_law_k"] ["_law_tape_here", "_law_old", "_law_most"] (defScope s_law_name) := scp_of (by kernel_rfl)
abbrev F_law_name (K : PySem.W.Frag) (f : Addr) (fd : FuncData) : Prop := FunD K "_law_name" "_law_name" (defArgs s_law_name) (defBody s_law_name) (defScope s_law_name) [] [] f fd
def d_law_name : He.DefD := ⟨("_law_name", none), "_law_name", "_law_name", defArgs s_law_name, defBody s_law_name, defScope s_law_name, [], []⟩
abbrev s_law_text : Stmt := top 22
theorem sc_law_text : FnScope ["_law_tape_here", "_law_plain", "_law_some", "_law_signs", "_law_way", "_law_many", "_law_text_here", "_law_k"] ["_law_tape_here", "_law_plain"] (defScope s_law_text) := scp_of (by kernel_rfl)
abbrev F_law_text (K : PySem.W.Frag) (f : Addr) (fd : FuncData) : Prop := FunD K "_law_text" "_law_text" (defArgs s_law_text) (defBody s_law_text) (defScope s_law_text) [] [] f fd
def d_law_text : He.DefD := ⟨("_law_text", none), "_law_text", "_law_text", defArgs s_law_text, defBody s_law_text, defScope s_law_text, [], []⟩
abbrev s_law_parts : Stmt := top 23
theorem sc_law_parts : FnScope ["_law_tape_here", "_law_plain", "_law_head", "_law_body"] ["_law_tape_here", "_law_plain"] (defScope s_law_parts) := scp_of (by kernel_rfl)
abbrev F_law_parts (K : PySem.W.Frag) (f : Addr) (fd : FuncData) : Prop := FunD K "_law_parts" "_law_parts" (defArgs s_law_parts) (defBody s_law_parts) (defScope s_law_parts) [] [] f fd
def d_law_parts : He.DefD := ⟨("_law_parts", none), "_law_parts", "_law_parts", defArgs s_law_parts, defBody s_law_parts, defScope s_law_parts, [], []⟩
abbrev s_law_entries : Stmt := top 24
theorem sc_law_entries : FnScope ["_law_cells", "_law_plain", "_law_old", "_law_texts", "_law_gone", "_law_cell", "_law_tape_here", "_law_way", "_law_name_here"] ["_law_cells", "_law_plain", "_law_old"] (defScope s_law_entries) := scp_of (by kernel_rfl)
abbrev F_law_entries (K : PySem.W.Frag) (f : Addr) (fd : FuncData) : Prop := FunD K "_law_entries" "_law_entries" (defArgs s_law_entries) (defBody s_law_entries) (defScope s_law_entries) [] [] f fd
def d_law_entries : He.DefD := ⟨("_law_entries", none), "_law_entries", "_law_entries", defArgs s_law_entries, defBody s_law_entries, defScope s_law_entries, [], []⟩
abbrev s_law_right : Stmt := top 25
theorem sc_law_right : FnScope ["_law_layer_here", "_law_texts", "_law_gone", "_law_turn", "_law_names", "_law_left", "_law_told"] ["_law_layer_here", "_law_texts", "_law_gone"] (defScope s_law_right) := scp_of (by kernel_rfl)
abbrev F_law_right (K : PySem.W.Frag) (f : Addr) (fd : FuncData) : Prop := FunD K "_law_right" "_law_right" (defArgs s_law_right) (defBody s_law_right) (defScope s_law_right) [] [] f fd
def d_law_right : He.DefD := ⟨("_law_right", none), "_law_right", "_law_right", defArgs s_law_right, defBody s_law_right, defScope s_law_right, [], []⟩
abbrev s_law_layer : Stmt := top 26
theorem sc_law_layer : FnScope ["_law_rulebook", "_law_texts", "_law_gone", "_law_handed", "_law_made"] ["_law_rulebook", "_law_texts", "_law_gone"] (defScope s_law_layer) := scp_of (by kernel_rfl)
abbrev F_law_layer (K : PySem.W.Frag) (f : Addr) (fd : FuncData) : Prop := FunD K "_law_layer" "_law_layer" (defArgs s_law_layer) (defBody s_law_layer) (defScope s_law_layer) [] [] f fd
def d_law_layer : He.DefD := ⟨("_law_layer", none), "_law_layer", "_law_layer", defArgs s_law_layer, defBody s_law_layer, defScope s_law_layer, [], []⟩
abbrev s_law : Stmt := top 27
theorem sc_law : FnScope ["_law_script", "_law_plain", "_law_old", "_law_texts", "_law_gone", "_law_more", "_law_left", "_law_rulebook", "_law_lower", "_law_upper", "_law_due", "_law_name_here", "_law_lost", "_law_both", "_law_every"] ["_law_script"] (defScope s_law) := scp_of (by kernel_rfl)
abbrev F_law (K : PySem.W.Frag) (f : Addr) (fd : FuncData) : Prop := FunD K "law" "law" (defArgs s_law) (defBody s_law) (defScope s_law) [] [] f fd
def d_law : He.DefD := ⟨("law", none), "law", "law", defArgs s_law, defBody s_law, defScope s_law, [], []⟩
def fn : List He.DefD := [d__wall, d_Layer_init, d_Layer_names, d_Layer_gone, d_Layer_texts, d_poured, d_lowest, d_rule_is_of, d_rule_fits, d_Rulebook_init, d_Rulebook_brought, d_Rulebook_is_silent, d_law_nth, d_law_tape, d_law_digit, d_law_name, d_law_text, d_law_parts, d_law_entries, d_law_right, d_law_layer, d_law]
def fa : List He.Fa := [.glo "_wall", .glo "poured", .glo "lowest", .glo "rule_is_of", .glo "rule_fits", .glo "_law_nth", .glo "_law_tape", .glo "_law_digit", .glo "_law_name", .glo "_law_text", .glo "_law_parts", .glo "_law_entries", .glo "_law_right", .glo "_law_layer", .glo "law", .glo "Layer", .cls "Layer", .keep "Layer", .noat "Layer" "gone_names", .noat "Layer" "rules", .noat "Layer" "standing", .mkr "Layer", .meth "Layer" "names", .meth "Layer" "gone", .meth "Layer" "texts", .glo "SearchError", .exc "SearchError", .glo "NoRule", .glo "Rulebook", .cls "Rulebook", .keep "Rulebook", .noat "Rulebook" "hushed", .noat "Rulebook" "tails", .mkr "Rulebook", .meth "Rulebook" "brought", .meth "Rulebook" "is_silent", .str "RULE_LETTERS" "abcdefghijklmnopqrstuvwxyz", .str "RULE_SIGNS" "abcdefghijklmnopqrstuvwxyz0123456789", .int "LONGEST_ENDING" 8, .int "LONGEST_PLAIN" 20, .int "MOST_LEFT" 20, .free "ValueError", .free "all", .free "dict", .free "int", .free "isinstance", .free "len", .free "list", .free "range", .free "sorted"]
abbrev R : PySem.W.OpenRow := PySem.W.OpenLaw.row PySem.Challenge.rw_shownranks_k31_layers_poured
def ck (K : PySem.W.Frag) : Bool := PL.isAllB K ["Layer"] && (PL.kitAllB K (He.ga K "Layer") [("Layer", true)] && (true))
abbrev hk : PySem.W.Hook := PL.hookY 4 fa fn ck
def ob (s : PySem.W.SharedT) : He.AlD × Bool := PL.obsY 4 fa fn ck (HandSHeadRun.getT s)
theorem ob_eq (s : PySem.W.SharedT) : ob s = hk.obs s.abs := PL.obsY_eq (HandSHeadRun.getT_eq s)
def nm0 : List Str := ["_wall", "Layer", "poured", "lowest", "SearchError", "NoRule", "rule_is_of", "rule_fits", "Rulebook", "_law_nth", "_law_tape", "_law_digit", "_law_name", "_law_text", "_law_parts", "_law_entries", "_law_right", "_law_layer", "RULE_LETTERS", "RULE_SIGNS", "LONGEST_ENDING", "LONGEST_PLAIN", "MOST_LEFT"]
def nms : List Str := nm0
theorem runA (w : World) : PL.RunA R (PySem.W.view R.prog [27]) 12000 nms w := by
  intro os
  kernel_rfl
theorem runB1 (w : World) : PL.RunC R (fun s => He.obsD fa fn (He.frG (HandSHeadRun.getT s) (PL.asM (HandSHeadRun.getT s) 4))) (He.valD fn) 12000 w := by
  intro os
  kernel_rfl
theorem runB2 (w : World) : PL.RunC R (fun s => ck (He.frG (HandSHeadRun.getT s) (PL.asM (HandSHeadRun.getT s) 4))) (true) 12000 w := by
  intro os
  kernel_rfl
theorem runB (w : World) : PL.RunB R hk ob 12000 w := PL.runB_of (runB1 w) (runB2 w)
theorem run (w : World) : HandSHeadRun.RunEq R (PySem.W.view R.prog [27]) hk ob 12000 nms w := PL.run_of (runA w) (runB w)
structure Tx (K : PySem.W.Frag) (mg : Str → Option Value) : Prop where
  c : He.SaysD fa fn K
  x : ck K = true
  xg : ∃ h : Heap, K.In h ∧ h.Ns mainGlobals mg
section
variable {P : Program} {w : World} {K : PySem.W.Frag} {mg : Str → Option Value} {base : Heap}
theorem Tx.g_poured (T : Tx K mg) : mg "poured" = some (.ref (He.ga K "poured")) := let ⟨_, X, G⟩ := T.xg; He.glo_ok X G (T.c.fact 1 (f := .glo "poured") (by kernel_rfl))
theorem Tx.g_lowest (T : Tx K mg) : mg "lowest" = some (.ref (He.ga K "lowest")) := let ⟨_, X, G⟩ := T.xg; He.glo_ok X G (T.c.fact 2 (f := .glo "lowest") (by kernel_rfl))
theorem Tx.g_rule_is_of (T : Tx K mg) : mg "rule_is_of" = some (.ref (He.ga K "rule_is_of")) := let ⟨_, X, G⟩ := T.xg; He.glo_ok X G (T.c.fact 3 (f := .glo "rule_is_of") (by kernel_rfl))
theorem Tx.g_rule_fits (T : Tx K mg) : mg "rule_fits" = some (.ref (He.ga K "rule_fits")) := let ⟨_, X, G⟩ := T.xg; He.glo_ok X G (T.c.fact 4 (f := .glo "rule_fits") (by kernel_rfl))
theorem Tx.g_law_nth (T : Tx K mg) : mg "_law_nth" = some (.ref (He.ga K "_law_nth")) := let ⟨_, X, G⟩ := T.xg; He.glo_ok X G (T.c.fact 5 (f := .glo "_law_nth") (by kernel_rfl))
theorem Tx.g_law_tape (T : Tx K mg) : mg "_law_tape" = some (.ref (He.ga K "_law_tape")) := let ⟨_, X, G⟩ := T.xg; He.glo_ok X G (T.c.fact 6 (f := .glo "_law_tape") (by kernel_rfl))
theorem Tx.g_law_digit (T : Tx K mg) : mg "_law_digit" = some (.ref (He.ga K "_law_digit")) := let ⟨_, X, G⟩ := T.xg; He.glo_ok X G (T.c.fact 7 (f := .glo "_law_digit") (by kernel_rfl))
theorem Tx.g_law_name (T : Tx K mg) : mg "_law_name" = some (.ref (He.ga K "_law_name")) := let ⟨_, X, G⟩ := T.xg; He.glo_ok X G (T.c.fact 8 (f := .glo "_law_name") (by kernel_rfl))
theorem Tx.g_law_text (T : Tx K mg) : mg "_law_text" = some (.ref (He.ga K "_law_text")) := let ⟨_, X, G⟩ := T.xg; He.glo_ok X G (T.c.fact 9 (f := .glo "_law_text") (by kernel_rfl))
theorem Tx.g_law_parts (T : Tx K mg) : mg "_law_parts" = some (.ref (He.ga K "_law_parts")) := let ⟨_, X, G⟩ := T.xg; He.glo_ok X G (T.c.fact 10 (f := .glo "_law_parts") (by kernel_rfl))
theorem Tx.g_law_entries (T : Tx K mg) : mg "_law_entries" = some (.ref (He.ga K "_law_entries")) := let ⟨_, X, G⟩ := T.xg; He.glo_ok X G (T.c.fact 11 (f := .glo "_law_entries") (by kernel_rfl))
theorem Tx.g_law_right (T : Tx K mg) : mg "_law_right" = some (.ref (He.ga K "_law_right")) := let ⟨_, X, G⟩ := T.xg; He.glo_ok X G (T.c.fact 12 (f := .glo "_law_right") (by kernel_rfl))
theorem Tx.g_law_layer (T : Tx K mg) : mg "_law_layer" = some (.ref (He.ga K "_law_layer")) := let ⟨_, X, G⟩ := T.xg; He.glo_ok X G (T.c.fact 13 (f := .glo "_law_layer") (by kernel_rfl))
theorem Tx.g_law (T : Tx K mg) : mg "law" = some (.ref (He.ga K "law")) := let ⟨_, X, G⟩ := T.xg; He.glo_ok X G (T.c.fact 14 (f := .glo "law") (by kernel_rfl))
theorem Tx.g_Layer (T : Tx K mg) : mg "Layer" = some (.ref (He.ga K "Layer")) := let ⟨_, X, G⟩ := T.xg; He.glo_ok X G (T.c.fact 15 (f := .glo "Layer") (by kernel_rfl))
theorem Tx.c_Layer (T : Tx K mg) : Cls K (He.ga K "Layer") := He.cls_ok (T.c.fact 16 (f := .cls "Layer") (by kernel_rfl))
theorem Tx.n_Layer_gone_names (T : Tx K mg) : NoAttr K (He.ga K "Layer") "gone_names" := He.noat_ok (T.c.fact 18 (f := .noat "Layer" "gone_names") (by kernel_rfl))
theorem Tx.n_Layer_rules (T : Tx K mg) : NoAttr K (He.ga K "Layer") "rules" := He.noat_ok (T.c.fact 19 (f := .noat "Layer" "rules") (by kernel_rfl))
theorem Tx.n_Layer_standing (T : Tx K mg) : NoAttr K (He.ga K "Layer") "standing" := He.noat_ok (T.c.fact 20 (f := .noat "Layer" "standing") (by kernel_rfl))
theorem Tx.i_Layer (T : Tx K mg) : Mk K (He.ga K "Layer") (He.ma K (He.ga K "Layer") "__init__") := He.mkr_ok (T.c.fact 21 (f := .mkr "Layer") (by kernel_rfl))
theorem Tx.m_Layer_names (T : Tx K mg) : Meth K (He.ga K "Layer") "names" (He.ma K (He.ga K "Layer") "names") := He.meth_ok (T.c.fact 22 (f := .meth "Layer" "names") (by kernel_rfl))
theorem Tx.m_Layer_gone (T : Tx K mg) : Meth K (He.ga K "Layer") "gone" (He.ma K (He.ga K "Layer") "gone") := He.meth_ok (T.c.fact 23 (f := .meth "Layer" "gone") (by kernel_rfl))
theorem Tx.m_Layer_texts (T : Tx K mg) : Meth K (He.ga K "Layer") "texts" (He.ma K (He.ga K "Layer") "texts") := He.meth_ok (T.c.fact 24 (f := .meth "Layer" "texts") (by kernel_rfl))
theorem Tx.g_Rulebook (T : Tx K mg) : mg "Rulebook" = some (.ref (He.ga K "Rulebook")) := let ⟨_, X, G⟩ := T.xg; He.glo_ok X G (T.c.fact 28 (f := .glo "Rulebook") (by kernel_rfl))
theorem Tx.c_Rulebook (T : Tx K mg) : Cls K (He.ga K "Rulebook") := He.cls_ok (T.c.fact 29 (f := .cls "Rulebook") (by kernel_rfl))
theorem Tx.n_Rulebook_hushed (T : Tx K mg) : NoAttr K (He.ga K "Rulebook") "hushed" := He.noat_ok (T.c.fact 31 (f := .noat "Rulebook" "hushed") (by kernel_rfl))
theorem Tx.n_Rulebook_tails (T : Tx K mg) : NoAttr K (He.ga K "Rulebook") "tails" := He.noat_ok (T.c.fact 32 (f := .noat "Rulebook" "tails") (by kernel_rfl))
theorem Tx.i_Rulebook (T : Tx K mg) : Mk K (He.ga K "Rulebook") (He.ma K (He.ga K "Rulebook") "__init__") := He.mkr_ok (T.c.fact 33 (f := .mkr "Rulebook") (by kernel_rfl))
theorem Tx.v_RULE_LETTERS (T : Tx K mg) : ∃ t, mg "RULE_LETTERS" = some (.str "abcdefghijklmnopqrstuvwxyz" t) := let ⟨_, X, G⟩ := T.xg; He.str_ok X G (T.c.fact 36 (f := .str "RULE_LETTERS" "abcdefghijklmnopqrstuvwxyz") (by kernel_rfl))
theorem Tx.v_RULE_SIGNS (T : Tx K mg) : ∃ t, mg "RULE_SIGNS" = some (.str "abcdefghijklmnopqrstuvwxyz0123456789" t) := let ⟨_, X, G⟩ := T.xg; He.str_ok X G (T.c.fact 37 (f := .str "RULE_SIGNS" "abcdefghijklmnopqrstuvwxyz0123456789") (by kernel_rfl))
theorem Tx.v_LONGEST_ENDING (T : Tx K mg) : ∃ t, mg "LONGEST_ENDING" = some (.int 8 t) := let ⟨_, X, G⟩ := T.xg; He.int_ok X G (T.c.fact 38 (f := .int "LONGEST_ENDING" 8) (by kernel_rfl))
theorem Tx.v_LONGEST_PLAIN (T : Tx K mg) : ∃ t, mg "LONGEST_PLAIN" = some (.int 20 t) := let ⟨_, X, G⟩ := T.xg; He.int_ok X G (T.c.fact 39 (f := .int "LONGEST_PLAIN" 20) (by kernel_rfl))
theorem Tx.v_MOST_LEFT (T : Tx K mg) : ∃ t, mg "MOST_LEFT" = some (.int 20 t) := let ⟨_, X, G⟩ := T.xg; He.int_ok X G (T.c.fact 40 (f := .int "MOST_LEFT" 20) (by kernel_rfl))
theorem Tx.b_all (T : Tx K mg) : mg "all" = none := let ⟨_, X, G⟩ := T.xg; He.free_ok X G (T.c.fact 42 (f := .free "all") (by kernel_rfl))
theorem Tx.b_dict (T : Tx K mg) : mg "dict" = none := let ⟨_, X, G⟩ := T.xg; He.free_ok X G (T.c.fact 43 (f := .free "dict") (by kernel_rfl))
theorem Tx.b_int (T : Tx K mg) : mg "int" = none := let ⟨_, X, G⟩ := T.xg; He.free_ok X G (T.c.fact 44 (f := .free "int") (by kernel_rfl))
theorem Tx.b_isinstance (T : Tx K mg) : mg "isinstance" = none := let ⟨_, X, G⟩ := T.xg; He.free_ok X G (T.c.fact 45 (f := .free "isinstance") (by kernel_rfl))
theorem Tx.b_len (T : Tx K mg) : mg "len" = none := let ⟨_, X, G⟩ := T.xg; He.free_ok X G (T.c.fact 46 (f := .free "len") (by kernel_rfl))
theorem Tx.b_list (T : Tx K mg) : mg "list" = none := let ⟨_, X, G⟩ := T.xg; He.free_ok X G (T.c.fact 47 (f := .free "list") (by kernel_rfl))
theorem Tx.b_range (T : Tx K mg) : mg "range" = none := let ⟨_, X, G⟩ := T.xg; He.free_ok X G (T.c.fact 48 (f := .free "range") (by kernel_rfl))
theorem Tx.b_sorted (T : Tx K mg) : mg "sorted" = none := let ⟨_, X, G⟩ := T.xg; He.free_ok X G (T.c.fact 49 (f := .free "sorted") (by kernel_rfl))
theorem Tx.is_Layer (T : Tx K mg) : PL.IsC K (He.ga K "Layer") := PL.is_at (He.ba T.x).1 0
theorem Tx.f_Layer_init (T : Tx K mg) : ∃ fd, F_Layer_init K (He.fAd K ("Layer", some "__init__")) fd := T.c.def_ 1 (d := d_Layer_init) (by kernel_rfl)
theorem b_Layer_init {f : Addr} {fd : FuncData} (F : F_Layer_init K f fd) : Binds K fd ["self", "rulebook", "texts", "gone"] [] := F.bindsN fun _ _ _ _ _ _ us hl => match us, hl with | [_, _, _, _], _ => rfl
theorem make_Layer (T : Tx K mg) {k : Nat} {sp : Sp} (h : ∀ f fd, F_Layer_init K f fd → FnOk P w K mg base CX0 k f fd ["self", "rulebook", "texts", "gone"] sp) : MakeOk P w K mg base "Layer" (He.ga K "Layer") k sp := let ⟨fd, F⟩ := T.f_Layer_init; ⟨_, fd, _, h _ fd F, T.g_Layer, T.i_Layer, b_Layer_init F⟩
theorem Tx.f_Layer_names (T : Tx K mg) : ∃ fd, F_Layer_names K (He.fAd K ("Layer", some "names")) fd := T.c.def_ 2 (d := d_Layer_names) (by kernel_rfl)
theorem b_Layer_names {f : Addr} {fd : FuncData} (F : F_Layer_names K f fd) : Binds K fd ["self"] [] := F.bindsN fun _ _ _ _ _ _ us hl => match us, hl with | [_], _ => rfl
theorem meth_Layer_names (T : Tx K mg) {k : Nat} {sp : Sp} (h : ∀ f fd, F_Layer_names K f fd → FnOk P w K mg base CX0 k f fd ["self"] sp) : MethOk P w K mg base (He.ga K "Layer") "names" k sp := let ⟨fd, F⟩ := T.f_Layer_names; ⟨_, fd, _, h _ fd F, T.m_Layer_names, b_Layer_names F, T.c_Layer⟩
theorem Tx.f_Layer_gone (T : Tx K mg) : ∃ fd, F_Layer_gone K (He.fAd K ("Layer", some "gone")) fd := T.c.def_ 3 (d := d_Layer_gone) (by kernel_rfl)
theorem b_Layer_gone {f : Addr} {fd : FuncData} (F : F_Layer_gone K f fd) : Binds K fd ["self"] [] := F.bindsN fun _ _ _ _ _ _ us hl => match us, hl with | [_], _ => rfl
theorem meth_Layer_gone (T : Tx K mg) {k : Nat} {sp : Sp} (h : ∀ f fd, F_Layer_gone K f fd → FnOk P w K mg base CX0 k f fd ["self"] sp) : MethOk P w K mg base (He.ga K "Layer") "gone" k sp := let ⟨fd, F⟩ := T.f_Layer_gone; ⟨_, fd, _, h _ fd F, T.m_Layer_gone, b_Layer_gone F, T.c_Layer⟩
theorem Tx.f_Layer_texts (T : Tx K mg) : ∃ fd, F_Layer_texts K (He.fAd K ("Layer", some "texts")) fd := T.c.def_ 4 (d := d_Layer_texts) (by kernel_rfl)
theorem b_Layer_texts {f : Addr} {fd : FuncData} (F : F_Layer_texts K f fd) : Binds K fd ["self"] [] := F.bindsN fun _ _ _ _ _ _ us hl => match us, hl with | [_], _ => rfl
theorem meth_Layer_texts (T : Tx K mg) {k : Nat} {sp : Sp} (h : ∀ f fd, F_Layer_texts K f fd → FnOk P w K mg base CX0 k f fd ["self"] sp) : MethOk P w K mg base (He.ga K "Layer") "texts" k sp := let ⟨fd, F⟩ := T.f_Layer_texts; ⟨_, fd, _, h _ fd F, T.m_Layer_texts, b_Layer_texts F, T.c_Layer⟩
theorem Tx.f_poured (T : Tx K mg) : ∃ fd, F_poured K (He.fAd K ("poured", none)) fd := T.c.def_ 5 (d := d_poured) (by kernel_rfl)
theorem b_poured {f : Addr} {fd : FuncData} (F : F_poured K f fd) : Binds K fd ["lower", "upper"] [] := F.bindsN fun _ _ _ _ _ _ us hl => match us, hl with | [_, _], _ => rfl
theorem call_poured (T : Tx K mg) {k : Nat} {sp : Sp} (h : ∀ f fd, F_poured K f fd → FnOk P w K mg base CX0 k f fd ["lower", "upper"] sp) : CallOk P w K mg base "poured" k sp := let ⟨fd, F⟩ := T.f_poured; ⟨_, fd, _, h _ fd F, T.g_poured, F.kp, b_poured F⟩
theorem Tx.f_lowest (T : Tx K mg) : ∃ fd, F_lowest K (He.fAd K ("lowest", none)) fd := T.c.def_ 6 (d := d_lowest) (by kernel_rfl)
theorem b_lowest {f : Addr} {fd : FuncData} (F : F_lowest K f fd) : Binds K fd ["layer"] [] := F.bindsN fun _ _ _ _ _ _ us hl => match us, hl with | [_], _ => rfl
theorem call_lowest (T : Tx K mg) {k : Nat} {sp : Sp} (h : ∀ f fd, F_lowest K f fd → FnOk P w K mg base CX0 k f fd ["layer"] sp) : CallOk P w K mg base "lowest" k sp := let ⟨fd, F⟩ := T.f_lowest; ⟨_, fd, _, h _ fd F, T.g_lowest, F.kp, b_lowest F⟩
theorem Tx.f_rule_is_of (T : Tx K mg) : ∃ fd, F_rule_is_of K (He.fAd K ("rule_is_of", none)) fd := T.c.def_ 7 (d := d_rule_is_of) (by kernel_rfl)
theorem b_rule_is_of {f : Addr} {fd : FuncData} (F : F_rule_is_of K f fd) : Binds K fd ["word", "signs", "least", "most"] [] := F.bindsN fun _ _ _ _ _ _ us hl => match us, hl with | [_, _, _, _], _ => rfl
theorem call_rule_is_of (T : Tx K mg) {k : Nat} {sp : Sp} (h : ∀ f fd, F_rule_is_of K f fd → FnOk P w K mg base CX0 k f fd ["word", "signs", "least", "most"] sp) : CallOk P w K mg base "rule_is_of" k sp := let ⟨fd, F⟩ := T.f_rule_is_of; ⟨_, fd, _, h _ fd F, T.g_rule_is_of, F.kp, b_rule_is_of F⟩
theorem Tx.f_rule_fits (T : Tx K mg) : ∃ fd, F_rule_fits K (He.fAd K ("rule_fits", none)) fd := T.c.def_ 8 (d := d_rule_fits) (by kernel_rfl)
theorem b_rule_fits {f : Addr} {fd : FuncData} (F : F_rule_fits K f fd) : Binds K fd ["ending", "instead", "least"] [] := F.bindsN fun _ _ _ _ _ _ us hl => match us, hl with | [_, _, _], _ => rfl
theorem call_rule_fits (T : Tx K mg) {k : Nat} {sp : Sp} (h : ∀ f fd, F_rule_fits K f fd → FnOk P w K mg base CX0 k f fd ["ending", "instead", "least"] sp) : CallOk P w K mg base "rule_fits" k sp := let ⟨fd, F⟩ := T.f_rule_fits; ⟨_, fd, _, h _ fd F, T.g_rule_fits, F.kp, b_rule_fits F⟩
theorem Tx.f_Rulebook_init (T : Tx K mg) : ∃ fd, F_Rulebook_init K (He.fAd K ("Rulebook", some "__init__")) fd := T.c.def_ 9 (d := d_Rulebook_init) (by kernel_rfl)
theorem b_Rulebook_init {f : Addr} {fd : FuncData} (F : F_Rulebook_init K f fd) : Binds K fd ["self", "endings", "silent"] [] := F.bindsN fun _ _ _ _ _ _ us hl => match us, hl with | [_, _, _], _ => rfl
theorem make_Rulebook (T : Tx K mg) {k : Nat} {sp : Sp} (h : ∀ f fd, F_Rulebook_init K f fd → FnOk P w K mg base CX0 k f fd ["self", "endings", "silent"] sp) : MakeOk P w K mg base "Rulebook" (He.ga K "Rulebook") k sp := let ⟨fd, F⟩ := T.f_Rulebook_init; ⟨_, fd, _, h _ fd F, T.g_Rulebook, T.i_Rulebook, b_Rulebook_init F⟩
theorem Tx.f_law_nth (T : Tx K mg) : ∃ fd, F_law_nth K (He.fAd K ("_law_nth", none)) fd := T.c.def_ 12 (d := d_law_nth) (by kernel_rfl)
theorem b_law_nth {f : Addr} {fd : FuncData} (F : F_law_nth K f fd) : Binds K fd ["_law_script", "_law_k"] [] := F.bindsN fun _ _ _ _ _ _ us hl => match us, hl with | [_, _], _ => rfl
theorem call_law_nth (T : Tx K mg) {k : Nat} {sp : Sp} (h : ∀ f fd, F_law_nth K f fd → FnOk P w K mg base CX0 k f fd ["_law_script", "_law_k"] sp) : CallOk P w K mg base "_law_nth" k sp := let ⟨fd, F⟩ := T.f_law_nth; ⟨_, fd, _, h _ fd F, T.g_law_nth, F.kp, b_law_nth F⟩
theorem Tx.f_law_tape (T : Tx K mg) : ∃ fd, F_law_tape K (He.fAd K ("_law_tape", none)) fd := T.c.def_ 13 (d := d_law_tape) (by kernel_rfl)
theorem b_law_tape {f : Addr} {fd : FuncData} (F : F_law_tape K f fd) : Binds K fd ["_law_cell", "_law_plain"] [] := F.bindsN fun _ _ _ _ _ _ us hl => match us, hl with | [_, _], _ => rfl
theorem call_law_tape (T : Tx K mg) {k : Nat} {sp : Sp} (h : ∀ f fd, F_law_tape K f fd → FnOk P w K mg base CX0 k f fd ["_law_cell", "_law_plain"] sp) : CallOk P w K mg base "_law_tape" k sp := let ⟨fd, F⟩ := T.f_law_tape; ⟨_, fd, _, h _ fd F, T.g_law_tape, F.kp, b_law_tape F⟩
theorem Tx.f_law_digit (T : Tx K mg) : ∃ fd, F_law_digit K (He.fAd K ("_law_digit", none)) fd := T.c.def_ 14 (d := d_law_digit) (by kernel_rfl)
theorem b_law_digit {f : Addr} {fd : FuncData} (F : F_law_digit K f fd) : Binds K fd ["_law_tape_here", "_law_many"] [] := F.bindsN fun _ _ _ _ _ _ us hl => match us, hl with | [_, _], _ => rfl
theorem call_law_digit (T : Tx K mg) {k : Nat} {sp : Sp} (h : ∀ f fd, F_law_digit K f fd → FnOk P w K mg base CX0 k f fd ["_law_tape_here", "_law_many"] sp) : CallOk P w K mg base "_law_digit" k sp := let ⟨fd, F⟩ := T.f_law_digit; ⟨_, fd, _, h _ fd F, T.g_law_digit, F.kp, b_law_digit F⟩
theorem Tx.f_law_name (T : Tx K mg) : ∃ fd, F_law_name K (He.fAd K ("_law_name", none)) fd := T.c.def_ 15 (d := d_law_name) (by kernel_rfl)
theorem b_law_name {f : Addr} {fd : FuncData} (F : F_law_name K f fd) : Binds K fd ["_law_tape_here", "_law_old", "_law_most"] [] := F.bindsN fun _ _ _ _ _ _ us hl => match us, hl with | [_, _, _], _ => rfl
theorem call_law_name (T : Tx K mg) {k : Nat} {sp : Sp} (h : ∀ f fd, F_law_name K f fd → FnOk P w K mg base CX0 k f fd ["_law_tape_here", "_law_old", "_law_most"] sp) : CallOk P w K mg base "_law_name" k sp := let ⟨fd, F⟩ := T.f_law_name; ⟨_, fd, _, h _ fd F, T.g_law_name, F.kp, b_law_name F⟩
theorem Tx.f_law_text (T : Tx K mg) : ∃ fd, F_law_text K (He.fAd K ("_law_text", none)) fd := T.c.def_ 16 (d := d_law_text) (by kernel_rfl)
theorem b_law_text {f : Addr} {fd : FuncData} (F : F_law_text K f fd) : Binds K fd ["_law_tape_here", "_law_plain"] [] := F.bindsN fun _ _ _ _ _ _ us hl => match us, hl with | [_, _], _ => rfl
theorem call_law_text (T : Tx K mg) {k : Nat} {sp : Sp} (h : ∀ f fd, F_law_text K f fd → FnOk P w K mg base CX0 k f fd ["_law_tape_here", "_law_plain"] sp) : CallOk P w K mg base "_law_text" k sp := let ⟨fd, F⟩ := T.f_law_text; ⟨_, fd, _, h _ fd F, T.g_law_text, F.kp, b_law_text F⟩
theorem Tx.f_law_parts (T : Tx K mg) : ∃ fd, F_law_parts K (He.fAd K ("_law_parts", none)) fd := T.c.def_ 17 (d := d_law_parts) (by kernel_rfl)
theorem b_law_parts {f : Addr} {fd : FuncData} (F : F_law_parts K f fd) : Binds K fd ["_law_tape_here", "_law_plain"] [] := F.bindsN fun _ _ _ _ _ _ us hl => match us, hl with | [_, _], _ => rfl
theorem call_law_parts (T : Tx K mg) {k : Nat} {sp : Sp} (h : ∀ f fd, F_law_parts K f fd → FnOk P w K mg base CX0 k f fd ["_law_tape_here", "_law_plain"] sp) : CallOk P w K mg base "_law_parts" k sp := let ⟨fd, F⟩ := T.f_law_parts; ⟨_, fd, _, h _ fd F, T.g_law_parts, F.kp, b_law_parts F⟩
theorem Tx.f_law_entries (T : Tx K mg) : ∃ fd, F_law_entries K (He.fAd K ("_law_entries", none)) fd := T.c.def_ 18 (d := d_law_entries) (by kernel_rfl)
theorem b_law_entries {f : Addr} {fd : FuncData} (F : F_law_entries K f fd) : Binds K fd ["_law_cells", "_law_plain", "_law_old"] [] := F.bindsN fun _ _ _ _ _ _ us hl => match us, hl with | [_, _, _], _ => rfl
theorem call_law_entries (T : Tx K mg) {k : Nat} {sp : Sp} (h : ∀ f fd, F_law_entries K f fd → FnOk P w K mg base CX0 k f fd ["_law_cells", "_law_plain", "_law_old"] sp) : CallOk P w K mg base "_law_entries" k sp := let ⟨fd, F⟩ := T.f_law_entries; ⟨_, fd, _, h _ fd F, T.g_law_entries, F.kp, b_law_entries F⟩
theorem Tx.f_law_right (T : Tx K mg) : ∃ fd, F_law_right K (He.fAd K ("_law_right", none)) fd := T.c.def_ 19 (d := d_law_right) (by kernel_rfl)
theorem b_law_right {f : Addr} {fd : FuncData} (F : F_law_right K f fd) : Binds K fd ["_law_layer_here", "_law_texts", "_law_gone"] [] := F.bindsN fun _ _ _ _ _ _ us hl => match us, hl with | [_, _, _], _ => rfl
theorem call_law_right (T : Tx K mg) {k : Nat} {sp : Sp} (h : ∀ f fd, F_law_right K f fd → FnOk P w K mg base CX0 k f fd ["_law_layer_here", "_law_texts", "_law_gone"] sp) : CallOk P w K mg base "_law_right" k sp := let ⟨fd, F⟩ := T.f_law_right; ⟨_, fd, _, h _ fd F, T.g_law_right, F.kp, b_law_right F⟩
theorem Tx.f_law_layer (T : Tx K mg) : ∃ fd, F_law_layer K (He.fAd K ("_law_layer", none)) fd := T.c.def_ 20 (d := d_law_layer) (by kernel_rfl)
theorem b_law_layer {f : Addr} {fd : FuncData} (F : F_law_layer K f fd) : Binds K fd ["_law_rulebook", "_law_texts", "_law_gone"] [] := F.bindsN fun _ _ _ _ _ _ us hl => match us, hl with | [_, _, _], _ => rfl
theorem call_law_layer (T : Tx K mg) {k : Nat} {sp : Sp} (h : ∀ f fd, F_law_layer K f fd → FnOk P w K mg base CX0 k f fd ["_law_rulebook", "_law_texts", "_law_gone"] sp) : CallOk P w K mg base "_law_layer" k sp := let ⟨fd, F⟩ := T.f_law_layer; ⟨_, fd, _, h _ fd F, T.g_law_layer, F.kp, b_law_layer F⟩
theorem Tx.f_law (T : Tx K mg) : ∃ fd, F_law K (He.fAd K ("law", none)) fd := T.c.def_ 21 (d := d_law) (by kernel_rfl)
end
end Tp

namespace PL
open PySem PySem.Spec PyProof.Rows L2
section
variable {X : Cx} {Z : PL.Ctx} {α O S : Type} {r : Rel α} {pos : Pos} {a e : Expr} {D : O → Ends} {rest : List Stmt} {Zs : S → PL.Ctx}
theorem gm_putDV (j : Nat) {l : Addr} {kvs : List (Text × α)} {m1 : Rs (α × S)} {m2 : α × S → Rs Text} {f : α × S → List (Text × α) → Rs O} {d : Expr} {pos' : Pos} {k : Nat} (hr : Room k X.A) (hv : EvS X e Z Zs r m1) (hd : ∀ q : α × S, EvE X d (Zs q.2) rRef l) (ha : ∀ q : α × S, EvM X a (Zs q.2) rC (m2 q)) (hj : ∀ t, (Zs t).ce[j]? = some (.dic l r kvs))
    (h : ∀ q us, GM X rest ((Zs q.2).setC ((Zs q.2).ce.set j (.dic l r us))) D (f q us)) (hs : swapsWith e (some (.Subscript d a pos')) pos.line X.env = pure false := by rfl) : GM X (.Assign [.Subscript d a pos'] e pos :: rest) Z D (m1.bd fun q => (m2 q).bd fun t => (putR kvs t q.1).bd (f q)) := fun o' q => by
  obtain ⟨y, q1, q2⟩ := Rs.bd_inv q
  obtain ⟨t, q3, q4⟩ := Rs.bd_inv q2
  obtain ⟨us, q5, q6⟩ := Rs.bd_inv q4
  obtain ⟨hl, q5⟩ := Rs.gd_inv q5
  cases q5
  refine goes_of (ps_dput (hu_of hr) ce ce ce hs) fun G H σ E => hv y q1 G H σ _ E fun G1 H1 v s1 E1 h1 => hd y G1 H1 σ _ E1 fun G2 H2 w e2 h2 => ha y t q3 G2 H2 σ _ (E1.ext e2) fun G3 H3 u e3 h3 => ?_
  have E3 := E1.ext (e2.trans e3)
  obtain rfl : w = .ref l := h2
  obtain ⟨rfl, ot⟩ : u = .str (mkS t) ∧ okT t := h3
  obtain ⟨_, _, u, g0, us, rfl, g2, g3, hn⟩ := E3.ce _ (List.mem_of_getElem? (hj y.2))
  exact ⟨l, _, rfl, DPut.k (k := Sum.inr (mkS t)) g0 (by rw [plen g2, sizeLine_eq]; exact hl), h y _ o' q6 G3 _ σ (E3.cellD (c' := .dic l r (dput kvs t y.1)) (hj y.2) rfl ⟨_, rfl, ent_put (r.mono (e2.g.trans e3.g) h1) ot g2 hn, Nat.le_trans (dput_len t y.1 kvs) (by rw [sizeLine_eq]; exact hl), dput_nd hn⟩)⟩
end
end PL

namespace PL
open PySem PySem.Spec PyProof.Rows L2
/-! ### xs.count(x) over data -/
section
variable {X : Cx} {Z : PL.Ctx} {α : Type} {r : Rel α} {pos apos : Pos} {a b : Expr} {xs : List α} {y : α} {m k : Nat}
end
end PL

/-! A list handed over behind another argument. -/
namespace PL
open PySem PySem.Spec PyProof.Rows L2
theorem slv_app {G : Hp} : ∀ {vs ws : List V} {ss ts : List Slot}, Slv G vs ss → Slv G ws ts → Slv G (vs ++ ws) (ss ++ ts)
  | _, _, _, _, .nil, h => h
  | _, _, _, _, .cons h t, h2 => .cons h (slv_app t h2)
section
variable {P : Program} {w : World} {K : PySem.W.Frag} {mg : Str → Option Value} {base : Heap} {τ : Type} {rt : Rel τ}
end
section
variable {X : Cx} {Z : PL.Ctx} {α τ ζ : Type} {r : Rel α} {rz : Rel ζ} {rt : Rel τ} {pos p : Pos} {a b : Expr} {n : Str} {k : Nat} {x : α} {xs : List τ}
end
end PL

/-! The last argument a list that the def changes; xs.remove(x); C(..) with a state; list(range(n)). -/
namespace PL
open PySem PySem.Spec PyProof.Rows L2
def spV {τ : Type} (rt : Rel τ) (Pr : List Slot → List τ → List τ → (Hp → V → Prop) → Prop) : Sp := fun vs H Q _ => ∃ (o : Addr) (us : List V) (ss : List Slot) (G : Hp) (ws : List V) (xs ys : List τ) (R : Hp → V → Prop), vs = us ++ [.ref o] ∧ Pr ss xs ys R ∧ SmF G H ∧ H o = some (.lst ws) ∧ G o = none ∧ Paired (rt.rd G) ws xs ∧ xs.length ≤ sizeLine ∧ Slv G us ss ∧
  ∀ G' H' v ws', Ext G (hid H o) G' H' → G' o = none → H' o = some (.lst ws') → Paired (rt.rd G') ws' ys → ys.length ≤ sizeLine → R G' v → Q v H'
section
variable {P : Program} {w : World} {K : PySem.W.Frag} {mg : Str → Option Value} {base : Heap} {τ : Type} {rt : Rel τ}
theorem fn_v {x qual : Str} {st : Stmt} {f : Addr} {fd : FuncData} {N ps : List Str} {k : Nat} {Pr : List Slot → List τ → List τ → (Hp → V → Prop) → Prop} (F : FunD K x qual (defArgs st) (defBody st) (defScope st) [] [] f fd) (S : FnScope N ps (defScope st)) (len : ∀ ss xs ys R, Pr ss xs ys R → ss.length + 1 = ps.length)
    (body : ∀ (cdv : Value) (A : Around) (outer : List PySem.Env) (s : Shared) (H : Hp) (E : XK) (G : Hp) (o : Addr) (ss : List Slot) (xs ys : List τ) (R : Hp → V → Prop), Room k (A.deeper (envOfC qual (defScope st) s.heap.objs.size f cdv)) → Pr ss xs ys R →
      Goes (cxOf CX0 P w K mg base N qual (defScope st) f cdv A outer s H E).nox (defBody st) ⟨⟨G, hid H o, []⟩, (ss ++ [.val rRef o]) ++ List.replicate (N.length - (ss ++ [Slot.val rRef o]).length) .any, [.lst o rt xs]⟩ (retB G H o rt ys R)) : FnOk P w K mg base CX0 (k + 1) f fd ps (spV rt Pr) := by
  refine F.ok S (fun vs H Q E h => ?_) (fun cdv A outer s H vs Q E hr h => ?_)
  · obtain ⟨o, us, ss, G, ws, xs, ys, R, rfl, h1, h2, h3, h4, h5, h6, h7, h8⟩ := h
    rw [List.length_append, slv_len h7, ← len ss xs ys R h1]
    rfl
  · obtain ⟨o, us, ss, G, ws, xs, ys, R, rfl, h1, h2, h3, h4, h5, h6, h7, h8⟩ := h
    refine ⟨wSs _ _, PSs.nox css, ?_⟩
    constructor
    intro pins s' I
    have st0 := env_start (N := N) h2 (slv_app h7 (show Slv G [V.ref o] [.val rRef o] from .cons rfl .nil))
    have E0 : Env ⟨⟨G, hid H o, []⟩, (ss ++ [.val rRef o]) ++ List.replicate (N.length - (ss ++ [Slot.val rRef o]).length) .any, [.lst o rt xs]⟩ G H (L2.start N (us ++ [.ref o])) := by
      refine ⟨⟨Same.refl _, h2, hid_sub H o, fun b _ z => z⟩, (fun B hB => by cases hB), st0.sl, fun c hc => ?_, by simp⟩
      rw [List.mem_singleton.mp hc]
      exact Cell.lst_ok hid_same h4 h3 h5 h6
    refine thn ((body cdv A outer s H E G o ss xs ys R hr h1 G H (L2.start N (us ++ [.ref o])) E0).run pins s' I) fun fl s1 hq => ?_
    cases fl with
    | next =>
      obtain ⟨σ', H', I', G', ws', q1, q2, q3, q4, q5, q6⟩ := hq
      exact ⟨σ', H', I', h8 G' H' _ ws' q1 q2 q3 q4 q5 q6⟩
    | brk => exact hq
    | cont => exact hq
    | ret u =>
      obtain ⟨v, σ', H', I', rv, G', ws', q1, q2, q3, q4, q5, q6⟩ := hq
      exact ⟨v, σ', H', I', rv, h8 G' H' v ws' q1 q2 q3 q4 q5 q6⟩
end
section
variable {X : Cx} {Z : PL.Ctx} {α β γ δ S ζ O τ : Type} {r : Rel α} {rt : Rel τ} {x : α} {pos p : Pos} {a e : Expr} {es : List Expr} {D : O → Ends} {rest : List Stmt} {n v : Str} {k : Nat} {Zs : S → PL.Ctx} {Zl : List τ → PL.Ctx} {xs : List α}
/-! ### xs.remove(x) -/
/-! ### texts in order -/
end
end PL

/-! Defs that hand back a new dict; d.clear(), d.pop(k, None), d.pop(k), d.update(e), x = xs.pop(). -/
namespace PL
open PySem PySem.Spec PyProof.Rows L2
def RtFD {α : Type} (G0 H0 : Hp) (r : Rel α) (kvs : List (Text × α)) : VK := fun v H' => ∃ G' o us, v = .ref o ∧ Ext G0 H0 G' H' ∧ H0 o = none ∧ G' o = none ∧ H' o = some (.dK us) ∧ Paired (ent r G') us kvs ∧ kvs.length ≤ sizeLine ∧ (kvs.map (fun q : Text × α => q.1)).Nodup
abbrev retFD {α : Type} (G0 H0 : Hp) (r : Rel α) (kvs : List (Text × α)) : Ends := { nx := fun _ _ => False, rt := RtFD G0 H0 r kvs }
def spFD {α : Type} (r : Rel α) (Pr : List Slot → List (Text × α) → Prop) : Sp := fun vs H Q _ => ∃ (ss : List Slot) (G : Hp) (kvs : List (Text × α)), Pr ss kvs ∧ SmF G H ∧ Slv G vs ss ∧
  ∀ G' H' o us, Ext G H G' H' → H o = none → G' o = none → H' o = some (.dK us) → Paired (ent r G') us kvs → kvs.length ≤ sizeLine → (kvs.map (fun q : Text × α => q.1)).Nodup → Q (.ref o) H'
section
variable {P : Program} {w : World} {K : PySem.W.Frag} {mg : Str → Option Value} {base : Heap} {α : Type} {r : Rel α}
theorem fn_fd {x qual : Str} {st : Stmt} {f : Addr} {fd : FuncData} {N ps : List Str} {k : Nat} {Pr : List Slot → List (Text × α) → Prop} (F : FunD K x qual (defArgs st) (defBody st) (defScope st) [] [] f fd) (S : FnScope N ps (defScope st)) (len : ∀ ss xs, Pr ss xs → ss.length = ps.length)
    (body : ∀ (cdv : Value) (A : Around) (outer : List PySem.Env) (s : Shared) (H : Hp) (E : XK) (G : Hp) (ss : List Slot) (xs : List (Text × α)), Room k (A.deeper (envOfC qual (defScope st) s.heap.objs.size f cdv)) → Pr ss xs →
      Goes (cxOf CX0 P w K mg base N qual (defScope st) f cdv A outer s H E).nox (defBody st) ⟨⟨G, H, []⟩, ss ++ List.replicate (N.length - ss.length) .any, []⟩ (retFD G H r xs)) : FnOk P w K mg base CX0 (k + 1) f fd ps (spFD r Pr) := by
  refine F.ok S (fun vs H Q E h => ?_) (fun cdv A outer s H vs Q E hr h => ?_)
  · obtain ⟨ss, G, xs, h1, h2, h3, h4⟩ := h
    rw [slv_len h3, len ss xs h1]
  · obtain ⟨ss, G, xs, h1, h2, h3, h4⟩ := h
    refine ⟨wSs _ _, PSs.nox css, ?_⟩
    constructor
    intro pins s' I
    refine thn ((body cdv A outer s H E G ss xs hr h1 G H (L2.start N vs) (env_start h2 h3)).run pins s' I) fun fl s1 hq => ?_
    cases fl with
    | next =>
      obtain ⟨σ', H', I', q⟩ := hq
      exact q.elim
    | brk => exact hq
    | cont => exact hq
    | ret u =>
      obtain ⟨v, σ', H', I', rv, G', o, us, rfl, q1, q2, q3, q4, q5, q6, q7⟩ := hq
      exact ⟨_, σ', H', I', rv, h4 G' H' o us q1 q2 q3 q4 q5 q6 q7⟩
end
/-! ### plainly -/
def ddel {α : Type} (kvs : List (Text × α)) (t : Text) : List (Text × α) := kvs.filter fun q => decide (q.1 ≠ t)
def dupd {α : Type} (kvs us : List (Text × α)) : List (Text × α) := us.foldl (fun acc q => dput acc q.1 q.2) kvs
noncomputable def updR {α : Type} (kvs us : List (Text × α)) : Rs (List (Text × α)) := .gd (kvs.length + us.length ≤ 16777216) (.ok (dupd kvs us))
theorem ddel_none {α : Type} {t : Text} : ∀ {kvs : List (Text × α)}, dget kvs t = none → ddel kvs t = kvs
  | [], _ => rfl
  | (k, x) :: kvs, h => by
    unfold dget at h
    split at h
    · cases h
    · rename_i hk
      unfold ddel
      rw [List.filter_cons_of_pos (by simpa using hk)]
      congr 1
      exact ddel_none h
theorem ent_del {α : Type} {r : Rel α} {G : Hp} {t : Text} : ∀ {us : List (Key × V)} {kvs : List (Text × α)}, Paired (ent r G) us kvs → Paired (ent r G) (dropK us (Sum.inr (mkS t) : Key)) (ddel kvs t)
  | _, _, .nil => .nil
  | (k, v) :: us, (t', x) :: kvs, .cons h rest => by
    have hk : k = Sum.inr (mkS t') := h.1
    have ih := ent_del (t := t) rest
    unfold dropK ddel at ih ⊢
    by_cases e : t' = t
    · rw [List.filter_cons_of_neg (by simp [hk, e]), List.filter_cons_of_neg (by simp [e])]
      exact ih
    · rw [List.filter_cons_of_pos (by simp only [hk, decide_eq_true_eq]; exact fun z => e (mkS_inj (Sum.inr.inj z))), List.filter_cons_of_pos (by simp [e])]
      exact .cons h ih
theorem ddel_nd {α : Type} {kvs : List (Text × α)} {t : Text} (h : (kvs.map (fun q : Text × α => q.1)).Nodup) : ((ddel kvs t).map (fun q : Text × α => q.1)).Nodup := h.sublist ((List.filter_sublist).map _)
theorem ddel_len {α : Type} (kvs : List (Text × α)) (t : Text) : (ddel kvs t).length ≤ kvs.length := List.length_filter_le _ _
/-! ### d.update(e) -/
def rDUpd : V → List V → Hp → VK → Prop := fun x vs H Q => ∃ (a b : Addr) (kvs more : List (Key × V)), x = .ref a ∧ vs = [.ref b] ∧ a ≠ b ∧ H a = some (.dK kvs) ∧ Rd H b (.dK more) ∧ kvs.length + more.length ≤ sizeLine ∧ Q .non (upd H a (.dK (mergeK kvs more)))
theorem mtd_update {X : Cx} : MtR X "dict.update" rDUpd := by
  intro pins s σ H x vs v us Q I rx rv h
  obtain ⟨a, b, kvs, more, rfl, rfl, hab, eA, eB, hl, q⟩ := h
  obtain rfl : v = Value.ref a := rx
  obtain ⟨u, rfl, ru⟩ := rv.one
  obtain rfl : u = Value.ref b := ru
  obtain ⟨z, hd, xs, rel, dd⟩ := dk_of I.hok eA
  obtain ⟨z2, hd2, ys, rel2, dd2⟩ := dk_rd I.hok eB
  have l1 : xs.length = kvs.length := rel.length.symm
  have l2 : ys.length = more.length := rel2.length.symm
  refine call_meetsIn PySem.F.slot_dict_update dd.typeIs PySem.F.entry_dict_update (PySem.F.args_dict_update_2 _ _) (meets_dict_update (mixKind X.prog X.w) a b hab hd2) ⟨xs, ys, dd, dd2, by rw [l1, l2]; exact hl, fun h' dd' _ hs => ?_⟩
  have he : ∃ q, h'.get? a = some q := let ⟨q, _, _, hq, _⟩ := dd'; ⟨q, hq⟩
  have hz := length_mergeK more kvs
  exact ⟨.non, _, d_write (t' := s.toks) I (by rw [eA]; exact True.intro) hs he (dk_new (by omega) hd (rel2.merge rel) dd'), rfl, q⟩
section
variable {X : Cx} {Z : PL.Ctx} {α β γ δ S ζ O : Type} {r : Rel α} {s : Rel β} {pos p : Pos} {a c d e : Expr} {es : List Expr} {D : O → Ends} {rest : List Stmt} {n : Str} {k : Nat} {x : α}
/-! ### statements -/
theorem gm_retFD {m : Rs (List (Text × α))} {g : List (Text × α) → O} (he : EvFDM X e Z r m) (hrt : ∀ xs, (D (g xs)).rt = RtFD Z.b.G0 Z.b.H0 r xs := by intro _; rfl) : GM X (.Return (some e) pos :: rest) Z D (m.bd fun x => .ok (g x)) := fun o q => by
  obtain ⟨xs, q1, q2⟩ := Rs.bd_inv q
  cases q2
  exact goes_of (ps_ret ce) fun G H σ E => he xs q1 G H σ _ E fun G1 H1 l us e1 z1 z2 z3 z4 z5 z6 => by
    have E1 := E.ext e1
    rw [hrt]
    exact ⟨G1, l, us, rfl, E1.ex, E.ex.h.free z1, z2, z3, z4, z5, z6⟩
theorem gm_clearD (i j : Nat) {o : Addr} {kvs : List (Text × α)} {m : Rs O} {px pa pc : Pos} (hz : Z.sl[i]? = some (.val rRef o)) (hj : Z.ce[j]? = some (.dic o r kvs))
    (h : GM X rest (Z.setC (Z.ce.set j (.dic o r []))) D m) (hN : X.N[i]? = some n := by rfl) (hv : Vis X.env.scope n := by first | exact Or.inl rfl | exact Or.inr (Or.inl rfl) | exact Or.inr (Or.inr rfl))
    (hbase : attributeBase (.Name n px) "clear" X.env (eval (.Name n px) X.env) = eval (.Name n px) X.env := by rfl) (hline : (pa.endLine == pc.line) = true := by rfl)
    (hsw : swapsWith (.Call (.Attribute (.Name n px) "clear" pa) [] [] pc) none pos.line X.env = pure false := by rfl)
    (hd : (n == ("__debug__" : Str)) = false := by decide) (hcd : (n == ("__classdict__" : Str)) = false := by decide) : GM X (.Expr (.Call (.Attribute (.Name n px) "clear" pa) [] [] pc) pos :: rest) Z D m := fun o' q =>
  goes_of (ps_expr (pe_dclear (pe_var hN hv hd hcd) hbase hline) hsw) fun G H σ E => by
    obtain ⟨v, h1, h2⟩ := E.get hz
    obtain rfl : v = .ref o := h2
    obtain ⟨c0, cG, u, cH, vs, rfl, cP, cL, cN⟩ := E.ce _ (List.mem_of_getElem? hj)
    exact ⟨.ref o, h1, .inr (.inr (.inl ⟨rfl, .inl ⟨_, cH⟩⟩)), o, vs, rfl, rfl, cH, h o' q G _ σ (E.cellD (c' := .dic o r []) hj rfl ⟨[], rfl, .nil, Nat.zero_le _, List.nodup_nil⟩)⟩
theorem gm_clrDE (j : Nat) {l : Addr} {kvs : List (Text × α)} {m : Rs O} {pa pc : Pos} (ho : EvE X d Z rRef l) (hj : Z.ce[j]? = some (.dic l r kvs))
    (h : GM X rest (Z.setC (Z.ce.set j (.dic l r []))) D m)
    (hbase : attributeBase d "clear" X.env (eval d X.env) = eval d X.env := by rfl) (hline : (pa.endLine == pc.line) = true := by rfl)
    (hsw : swapsWith (.Call (.Attribute d "clear" pa) [] [] pc) none pos.line X.env = pure false := by rfl) : GM X (.Expr (.Call (.Attribute d "clear" pa) [] [] pc) pos :: rest) Z D m := fun o' q =>
  goes_of (ps_expr (pe_dclear ce hbase hline) hsw) fun G H σ E => ho G H σ _ E fun G1 H1 v x1 hv => by
    obtain rfl : v = .ref l := hv
    have E1 := E.ext x1
    obtain ⟨c0, cG, u, cH, vs, rfl, cP, cL, cN⟩ := E1.ce _ (List.mem_of_getElem? hj)
    exact ⟨.inr (.inr (.inl ⟨rfl, .inl ⟨_, cH⟩⟩)), l, vs, rfl, rfl, cH, h o' q G1 _ σ (E1.cellD (c' := .dic l r []) hj rfl ⟨[], rfl, .nil, Nat.zero_le _, List.nodup_nil⟩)⟩
theorem gm_pop2 (i j : Nat) {o : Addr} {kvs : List (Text × α)} {m1 : Rs Text} {m : List (Text × α) → Rs O} {px pa pc pn : Pos} {jn : Nat} (he : EvM X e Z rC m1) (hz : Z.sl[i]? = some (.val rRef o)) (hj : Z.ce[j]? = some (.dic o r kvs))
    (h : ∀ us, GM X rest (Z.setC (Z.ce.set j (.dic o r us))) D (m us)) (hN : X.N[i]? = some n := by rfl) (hv : Vis X.env.scope n := by first | exact Or.inl rfl | exact Or.inr (Or.inl rfl) | exact Or.inr (Or.inr rfl))
    (hM : L2.M2 X (.Name n px) "pop" pa e (.Constant .none jn pn) pc := by exact ⟨rfl, rfl, rfl, rfl⟩)
    (hsw : swapsWith (.Call (.Attribute (.Name n px) "pop" pa) [e, .Constant .none jn pn] [] pc) none pos.line X.env = pure false := by rfl)
    (hd : (n == ("__debug__" : Str)) = false := by decide) (hcd : (n == ("__classdict__" : Str)) = false := by decide) : GM X (.Expr (.Call (.Attribute (.Name n px) "pop" pa) [e, .Constant .none jn pn] [] pc) pos :: rest) Z D (m1.bd fun t => (Rs.ok (ddel kvs t)).bd m) := fun o' q => by
  obtain ⟨t, q1, q2⟩ := Rs.bd_inv q
  refine goes_of (ps_expr (pe_dpop2 (pe_var hN hv hd hcd) ce pe_non hM) hsw) fun G H σ E => ?_
  obtain ⟨v, h1, h2⟩ := E.get hz
  obtain rfl : v = .ref o := h2
  obtain ⟨c0, cG, u, cH, vs, rfl, cP, cL, cN⟩ := E.ce _ (List.mem_of_getElem? hj)
  refine ⟨.ref o, h1, o, rfl, .inl ⟨_, .inl cH⟩, he t q1 G H σ _ E fun G1 H1 y e1 hy => ?_⟩
  obtain ⟨rfl, ot⟩ := hy
  have E1 := E.ext e1
  obtain ⟨_, _, u, cH1, vs1, rfl, cP1, cL1, cN1⟩ := E1.ce _ (List.mem_of_getElem? hj)
  refine ⟨vs1, Sum.inr (mkS t), cH1, rfl, fun v hv => ?_, fun hn => ?_⟩
  · exact h _ o' q2 G1 _ σ (E1.cellD (c' := .dic o r (ddel kvs t)) hj rfl ⟨_, rfl, ent_del cP1, Nat.le_trans (ddel_len ..) cL1, ddel_nd cN1⟩)
  · have hg : dget kvs t = none := by
      rcases ent_get (t := t) cP1 with ⟨_, z⟩ | ⟨v, x, z, _⟩
      · exact z
      · rw [hn] at z; cases z
    have e0 : Z.setC (Z.ce.set j (.dic o r (ddel kvs t))) = Z := by rw [ddel_none hg, set_self hj]; rfl
    exact h _ o' q2 G1 H1 σ (by rw [e0]; exact E1)
theorem gm_upd (i j : Nat) {o : Addr} {kvs : List (Text × α)} {m1 : Rs (List (Text × α))} {m : List (Text × α) → Rs O} {px pa pc : Pos} (he : EvM X e Z (rD r) m1) (hz : Z.sl[i]? = some (.val rRef o)) (hj : Z.ce[j]? = some (.dic o r kvs))
    (h : ∀ us, GM X rest (Z.setC (Z.ce.set j (.dic o r us))) D (m us)) (hN : X.N[i]? = some n := by rfl) (hv : Vis X.env.scope n := by first | exact Or.inl rfl | exact Or.inr (Or.inl rfl) | exact Or.inr (Or.inr rfl))
    (hbase : attributeBase (.Name n px) "update" X.env (eval (.Name n px) X.env) = eval (.Name n px) X.env := by rfl)
    (hfew : ((backTo pc (starEach [e] X.env)).all (fun x => !x.1) && (backToKw pc (keywordEach [] X.env)).all (fun x => x.1.isSome) && decide ([e].length + ([] : List Keyword).length + (if ([] : List Keyword).isEmpty then 0 else 1) < 30)) = true := by rfl)
    (hline : (pa.endLine == pc.line) = true := by rfl) (hs : starEach [e] X.env = (false, eval e X.env) :: starEach [] X.env := by rfl) (hplain : (backTo pc (starEach [] X.env)).any (·.1) = false := by rfl)
    (hsw : swapsWith (.Call (.Attribute (.Name n px) "update" pa) [e] [] pc) none pos.line X.env = pure false := by rfl)
    (hd : (n == ("__debug__" : Str)) = false := by decide) (hcd : (n == ("__classdict__" : Str)) = false := by decide) : GM X (.Expr (.Call (.Attribute (.Name n px) "update" pa) [e] [] pc) pos :: rest) Z D (m1.bd fun us => (updR kvs us).bd m) := fun o' q => by
  obtain ⟨us, q1, q2⟩ := Rs.bd_inv q
  obtain ⟨ws, q3, q4⟩ := Rs.bd_inv q2
  obtain ⟨hl, q3⟩ := Rs.gd_inv q3
  cases q3
  refine goes_of (ps_expr (pe_bm PySem.F.plainAttrs_dict PySem.F.slot_dict_update PySem.F.type_dict_update mtd_update (pe_var hN hv hd hcd) (pa_cons ce pa_nil hs) hbase hfew hline hs hplain) hsw) fun G H σ E => ?_
  obtain ⟨v, h1, h2⟩ := E.get hz
  obtain rfl : v = .ref o := h2
  obtain ⟨c0, cG, u, cH, vs, rfl, cP, cL, cN⟩ := E.ce _ (List.mem_of_getElem? hj)
  refine ⟨.ref o, h1, .inr (.inr (.inl ⟨rfl, .inl ⟨_, cH⟩⟩)), he us q1 G H σ _ E fun G1 H1 y e1 hy => ?_⟩
  have E1 := E.ext e1
  obtain ⟨b, ys, rfl, g1, g2, g3, g4⟩ := hy
  obtain ⟨_, cG1, u, cH1, vs1, rfl, cP1, cL1, cN1⟩ := E1.ce _ (List.mem_of_getElem? hj)
  have cG1 : G1 o = none := cG1
  have hob : o ≠ b := fun z => by rw [← z, cG1] at g1; cases g1
  obtain ⟨a1, a2, a3⟩ := dmrg_fold us vs1 kvs ys cP1 cN1 g2
  refine ⟨o, b, vs1, ys, rfl, rfl, hob, cH1, e1.s.dk g1, by rw [plen cP1, plen g2, sizeLine_eq]; exact hl, ?_⟩
  exact h _ o' q4 G1 _ σ (E1.cellD (c' := .dic o r (dupd kvs us)) hj rfl ⟨_, rfl, a1, by rw [sizeLine_eq]; exact Nat.le_trans a3 hl, a2⟩)
/-! ### calls -/
theorem efd_meth0 {m : Str} {apos : Pos} {C : Addr} {Pr : List Slot → List (Text × β) → Prop} {fs : α → List (Str × Slot)} {ys : List (Text × β)} {pl : Sem Bool} (M : MethOk X.prog X.w X.K X.mg X.base C m k (spFD s Pr)) (hr : Room k X.A) (ho : EvE X a Z (rObj C fs) x) (hf : (fs x).lookup m = none) (hP : Pr [.val (rObj C fs) x] ys)
    (ht : eval (.Call (.Attribute a m apos) [] [] pos) X.env = (do
      let ov ← eval a X.env
      standAt apos.atName
      let (f, first) ← holding [ov] (getMethod ov m pl)
      callWith pos f first (backTo pos (starEach [] X.env)) (backToKw pos (keywordEach [] X.env))) := by rfl) : EvFD X (.Call (.Attribute a m apos) [] [] pos) Z s ys := fun G H σ Q E q => by
  obtain ⟨f, fd, ps, F, hm, hb, hc⟩ := M
  refine toE (pe_meth0 (E := fun _ _ _ => False) ce hc hm F hr hb .nil pass0 ht) (ho G H σ _ E fun G1 H1 v e1 h1 => ?_)
  obtain ⟨l, dx, vfs, rfl, g1, g2, g3⟩ := id h1
  refine ⟨l, dx, vfs, rfl, e1.s.ins g1, flds_none g3 hf, ?_⟩
  exact ⟨_, G1, ys, hP, e1.s, .cons h1 .nil, fun G3 H3 o us e3 h3 h4 h5 h6 h7 h8 => q G3 H3 o us (e1.trans e3) (e1.h.free h3) h4 h5 h6 h7 h8⟩
theorem efdm_m1 {m : Str} {apos : Pos} {C : Addr} {fs : α → List (Str × Slot)} {pl : Sem Bool} {rz : Rel ζ} {f : α → Rs (List (Text × ζ))} (M : MethOk X.prog X.w X.K X.mg X.base C m k (spFD rz (N1 (rObj C fs) f))) (hr : Room k X.A) (ho : EvE X a Z (rObj C fs) x) (hf : (fs x).lookup m = none := by rfl) (ht : eval (.Call (.Attribute a m apos) [] [] pos) X.env = (do
      let ov ← eval a X.env
      standAt apos.atName
      let (f, first) ← holding [ov] (getMethod ov m pl)
      callWith pos f first (backTo pos (starEach [] X.env)) (backToKw pos (keywordEach [] X.env))) := by rfl) : EvFDM X (.Call (.Attribute a m apos) [] [] pos) Z rz (f x) := fun z q => efd_meth0 M hr ho hf ⟨x, rfl, q⟩ ht
theorem em_fd {m : Rs (List (Text × α))} (h : EvFDM X e Z r m) : EvM X e Z (rD r) m := fun z q => ev_fd (h z q)
theorem pe_lockV {te : TE} (h : PE X e te) : PE X e (fun σ H Q => te σ H fun v H' => ∃ d us, v = .ref d ∧ H' d = some (.dK us) ∧ ∀ od, Q v (upd H' d (.frz od (.dK us)))) := ⟨fun pins s σ H Q I q => thn (h.run pins s σ H _ I q) fun u s1 ⟨v, H1, I1, rv, d, us, ev, hd, hq⟩ => by
  obtain ⟨od, I2⟩ := I1.lock hd True.intro
  exact ⟨v, _, I2, rv, hq od⟩⟩
theorem ei_itemsF {kvs : List (Text × α)} {elts : List Expr} {kk : Nat} {tp apos : Pos} (h : EvFD X e Z r kvs) (hbase : attributeBase e "items" X.env (eval e X.env) = eval e X.env := by rfl) (hline : (apos.endLine == pos.line) = true := by rfl) :
    EvI X (.Tuple elts kk tp) (.Call (.Attribute e "items" apos) [] [] pos) Z (rT2 X.K rC r) kvs := ⟨_, pi_items (pe_lockV ce) hbase hline, fun G H σ R E k => h G H σ _ E fun G1 H1 d us e1 h1 h2 h3 h4 h5 h6 => ⟨d, us, rfl, h3, fun od => by
  have s1 : Same G1 (upd G1 d (.frz od (.dK us))) := same_upd h2
  have x1 : Ext G H (upd G1 d (.frz od (.dK us))) (upd H1 d (.frz od (.dK us))) := by
    refine ⟨e1.g.trans s1, fun b u hb => ?_, fun b u hb => ?_, fun b hb hg => ?_⟩
    · by_cases hbd : b = d
      · subst hbd; rw [upd_same] at hb ⊢; exact .inl hb
      · rw [upd_ne hbd] at hb ⊢; exact e1.s b u hb
    · rw [upd_ne (ne_of_none hb h1)]; exact e1.h b u hb
    · have hbd : b ≠ d := fun z => hb (z ▸ h1)
      rw [upd_ne hbd]; exact e1.n b hb hg
  have at_ : ∀ {G2 H2 : Hp}, Same (upd G1 d (.frz od (.dK us))) G2 → SmF G2 H2 → H2 d = some (.frz od (.dK us)) := fun g s => s.at (g d _ upd_same) fun _ z => by cases z
  refine ⟨d, od, us, rfl, upd_same, k _ _ _ x1 ⟨fun i G2 H2 g s hi => ⟨at_ g s, by rw [plen h4]; exact hi⟩, fun i G2 H2 g s hi => ⟨at_ g s, by rw [plen h4]; exact hi⟩, fun i G2 H2 v H3 g s hi hy => ?_⟩ h5⟩
  obtain ⟨T, k0, v0, q1, rfl, nT, rfl⟩ := hy
  obtain ⟨y, q2, q3, q4, q5⟩ := pget h4 q1
  have e2 : Ext G2 H2 (upd G2 T (.tup [kV k0, v0])) (upd H2 T (.tup [kV k0, v0])) := .new s nT
  refine ⟨y, _, q2, e2, T, kV k0, v0, rfl, .inl (.inl upd_same), ?_, r.mono ((s1.trans g).trans e2.g) q4⟩
  cases q3
  exact ⟨rfl, q5⟩⟩⟩
theorem eim_itemsF {m : Rs (List (Text × α))} {elts : List Expr} {kk : Nat} {tp apos : Pos} (h : EvFDM X e Z r m) (hbase : attributeBase e "items" X.env (eval e X.env) = eval e X.env := by rfl) (hline : (apos.endLine == pos.line) = true := by rfl) :
    EvIM X (.Tuple elts kk tp) (.Call (.Attribute e "items" apos) [] [] pos) Z (rT2 X.K rC r) m := fun x q => ei_itemsF (h x q) hbase hline
end
end PL

/-! Objects of the def's own, made of several cells: asked, changed by methods and defs, made, handed back. -/
namespace PL
open PySem PySem.Spec PyProof.Rows L2
section
variable {A S : Type} (cs : A → S → List Cell) (oOf : A → Addr)
end
section
variable {P : Program} {w : World} {K : PySem.W.Frag} {mg : Str → Option Value} {base : Heap} {A S : Type} {cs : A → S → List Cell} {oOf : A → Addr}
end
/-! ### what is known of an object from the def's begin on -/
section
variable {A S : Type} {cs : A → S → List Cell} {oOf : A → Addr} {X : Cx} {Z : PL.Ctx} {α β γ ζ O : Type} {r : Rel α} {rz : Rel ζ} {pos p apos : Pos} {a b c d e o : Expr} {es : List Expr} {D : O → Ends} {rest body : List Stmt} {n m : Str} {k : Nat} {C l : Addr} {x : α} {oa : A} {s s0 : S} {Zs : S → PL.Ctx}
/-! ### methods that ask -/
def R1  {ζ : Type} (rz : Rel ζ) (f : S → Rs ζ) : List Slot → S → (Hp → V → Prop) → Prop := fun ss s R => ∃ z, ss = [] ∧ f s  = .ok z ∧ R = fun G v => rz.rd G v z
def R2 {α2 : Type} (r2 : Rel α2) {ζ : Type} (rz : Rel ζ) (f : S → α2 → Rs ζ) : List Slot → S → (Hp → V → Prop) → Prop := fun ss s R => ∃ (x2 : α2), ∃ z, ss = [.val r2 x2] ∧ f s x2 = .ok z ∧ R = fun G v => rz.rd G v z
/-! ### methods and defs that change -/
/-! ### the ends of a def that changes its object -/
/-! ### new objects -/
theorem es_tl3 {m1 : Rs ((α × α × α) × S)} (h : EvS X e Z Zs (rT3 X.K r r r) m1) : EvS X e Z Zs (rTL X.K r) (m1.bd fun q => .ok ([q.1.1, q.1.2.1, q.1.2.2], q.2)) := fun q hq G H σ Q E k => by
  obtain ⟨y, g1, g2⟩ := Rs.bd_inv hq
  cases g2
  exact h y g1 G H σ Q E fun G1 H1 v s1 E1 hv => k G1 H1 v s1 E1 (by
    obtain ⟨a, v1, v2, v3, rfl, h1, h2, h3, h4⟩ := hv
    exact ⟨a, [v1, v2, v3], rfl, h1, .cons h2 (.cons h3 (.cons h4 .nil)), szl 3⟩)
end
end PL

/-! i >> j, i & 1; f(t, xs, ..): t changes, xs is a list of the def's own. -/
namespace PL
open PySem PySem.Spec PyProof.Rows L2
section
variable {X : Cx} {Z : PL.Ctx} {α β γ ζ τ : Type} {r : Rel α} {rt : Rel τ} {pos p : Pos} {a b : Expr} {es : List Expr} {n v : Str} {k : Nat} {Zl : List τ → PL.Ctx} {i j : Int}
theorem es_callBL (i j i2 j2 : Nat) {o o2 : Addr} {xs : List α} {Pr : List Slot → List τ → List τ → (Hp → V → Prop) → Prop} {ss : List Slot} {rz : Rel ζ} {m : Rs (ζ × List τ)} {px : Pos} (t : List τ) (C : CallOk X.prog X.w X.K X.mg X.base n k (spB rt Pr)) (hr : Room k X.A)
    (hf : NoL rz) (hft : NoL rt) (hz2 : Z.sl[i2]? = some (.val rRef o2)) (hj2 : Z.ce[j2]? = some (.lst o2 r xs)) (ha : EvA X es ⟨Z.b, Z.sl.set i2 (.val (rL X.K r) xs), Z.ce.eraseIdx j2⟩ ss)
    (hP : ∀ z ys, m = .ok (z, ys) → ∃ R, Pr ss t ys R ∧ ∀ G v, R G v → rz.rd G v z)
    (hz : Z.sl[i]? = some (.val rRef o)) (hj : Z.ce[j]? = some (.lst o rt t)) (hjj : j ≠ j2) (hset : ∀ u, Zl u = Z.setC (Z.ce.set j (.lst o rt u)) := by intro _; rfl)
    (hg : Gl X n := by rfl) (hdb : (n == ("__debug__" : Str)) = false := by decide) (he : starEach (.Name v px :: es) X.env = (false, eval (.Name v px) X.env) :: starEach es X.env := by rfl) (hpl : (backTo pos (starEach es X.env)).any (·.1) = false := by rfl)
    (hN : X.N[i]? = some v := by rfl) (hv : Vis X.env.scope v := by first | exact Or.inl rfl | exact Or.inr (Or.inl rfl) | exact Or.inr (Or.inr rfl)) (hd : (v == ("__debug__" : Str)) = false := by decide) (hcd : (v == ("__classdict__" : Str)) = false := by decide) :
    EvS X (.Call (.Name n p) (.Name v px :: es) [] pos) Z Zl rz m := fun q hq G H σ Q E kk => by
  obtain ⟨f, fd, ps, F, hm, hk, hb⟩ := C
  obtain ⟨R, h1, h2⟩ := hP q.1 q.2 hq
  obtain ⟨w, g1, g2⟩ := E.get hz
  obtain rfl : w = .ref o := g2
  obtain ⟨us0, f1, f2, _, f3⟩ := E.frz (X := X) hz2 hj2
  have hne : o ≠ o2 := fun z => by
    have hl := (List.getElem?_eq_some_iff.mp hj).1
    have a1 : (Z.ce.map Cell.addr)[j]? = some o := by rw [List.getElem?_map, hj]; rfl
    have a2 : (Z.ce.map Cell.addr)[j2]? = some o2 := by rw [List.getElem?_map, hj2]; rfl
    rw [← z] at a2
    exact hjj ((List.getElem?_inj (by rw [List.length_map]; exact hl) E.nd).mp (a1.trans a2.symm))
  refine toE (pe_call (E := fun _ _ _ => False) F hr hg hm hk hb .nil pass0 (pa_cons (pe_var hN hv hd hcd) ca he) hdb he hpl) ⟨.ref o, g1, ha _ H σ _ f3 fun G1 H1 vs e1 r1 => ?_⟩
  have eh := lent_ext f2 e1
  have E1 := E.ext eh
  have hG1 : G1 o2 = some (.lst us0) := e1.g _ _ upd_same
  obtain ⟨c0, cG, ws, cH, cP, cL⟩ := Cell.ok_lst (E1.ce _ (List.mem_of_getElem? hj))
  rw [hid_ne hne] at cG
  refine ⟨o, vs, ss, G1, ws, t, q.2, R, by rw [List.append_nil], h1, e1.s, cH, cG, pmono (fun _ _ => rt.mono (hid_sub _ _)) cP, cL, r1, fun G2 H2 u ws' e2 k1 k2 k3 k4 k5 => ?_⟩
  have hG2 : G2 o2 = some (.lst us0) := e2.g _ _ hG1
  have e2' : Ext (hid G1 o2) (hid H1 o) (hid G2 o2) H2 := lent_ext hid_same (by rw [upd_hid hG1]; exact e2)
  exact kk (hid G2 o2) H2 u (eh.g.trans e2'.g) (by rw [hset]; exact E1.byref hj e2' (by rw [hid_ne hne]; exact k1) k2 (pmono (fun _ _ h => hft _ _ _ _ _ h hG2) k3) k4) (hf _ _ _ _ _ (h2 G2 u k5) hG2)
theorem es_b3L (i j i2 j2 : Nat) {o o2 : Addr} {xs : List α} {s : Rel β} {y : β} {px : Pos} {rz : Rel ζ} {f : List τ → List α → β → Rs (ζ × List τ)} (t : List τ) (C : CallOk X.prog X.w X.K X.mg X.base n k (spB rt (B3 (rL X.K r) s rz f))) (hr : Room k X.A)
    (hf : NoL rz) (hft : NoL rt) (hz2 : Z.sl[i2]? = some (.val rRef o2)) (hj2 : Z.ce[j2]? = some (.lst o2 r xs)) (ha : EvA X es ⟨Z.b, Z.sl.set i2 (.val (rL X.K r) xs), Z.ce.eraseIdx j2⟩ [.val (rL X.K r) xs, .val s y])
    (hz : Z.sl[i]? = some (.val rRef o)) (hj : Z.ce[j]? = some (.lst o rt t)) (hjj : j ≠ j2) (hset : ∀ u, Zl u = Z.setC (Z.ce.set j (.lst o rt u)) := by intro _; rfl)
    (hg : Gl X n := by rfl) (hdb : (n == ("__debug__" : Str)) = false := by decide) (he : starEach (.Name v px :: es) X.env = (false, eval (.Name v px) X.env) :: starEach es X.env := by rfl) (hpl : (backTo pos (starEach es X.env)).any (·.1) = false := by rfl)
    (hN : X.N[i]? = some v := by rfl) (hv : Vis X.env.scope v := by first | exact Or.inl rfl | exact Or.inr (Or.inl rfl) | exact Or.inr (Or.inr rfl)) (hd : (v == ("__debug__" : Str)) = false := by decide) (hcd : (v == ("__classdict__" : Str)) = false := by decide) :
    EvS X (.Call (.Name n p) (.Name v px :: es) [] pos) Z Zl rz (f t xs y) := es_callBL i j i2 j2 t C hr hf hft hz2 hj2 ha (fun z ys h => ⟨_, ⟨xs, y, z, rfl, h, rfl⟩, fun _ _ h => h⟩) hz hj hjj hset hg hdb he hpl hN hv hd hcd
end
end PL

namespace PL
open PySem PySem.Spec PyProof.Rows L2
/-! ### lists and dicts that are another's: told by the base, copied here -/
section
variable {X : Cx} {Z : PL.Ctx} {α β : Type} {r : Rel α} {s : Rel β} {y : β} {e : Expr} {xs : List α}
theorem efd_lentF (i : Nat) {l : Addr} {us : List (Key × V)} {kvs : List (Text × α)} {zs : List (Text × β)} (F : Frn Z l r us kvs) (hf : NoD s) (hz : Z.sl[i]? = some (.val rRef l)) (h : EvFD X e ⟨⟨upd Z.b.G0 l (.dK us), Z.b.H0, Z.b.ab⟩, Z.sl.set i (.val (rD r) kvs), Z.ce⟩ s zs) : EvFD X e Z s zs := fun G H σ Q E k => by
  obtain ⟨hG, E'⟩ := E.lentF F hz
  refine h _ H σ Q E' fun G2 H2 o ws e2 q1 q2 q3 q4 q5 q6 => k (hid G2 l) H2 o ws (lent_ext hG e2) q1 ?_ q3 (pmono (fun _ _ g => ⟨g.1, hf _ _ _ _ _ g.2.1 (e2.g _ _ upd_same), g.2.2⟩) q4) q5 q6
  cases hb : hid G2 l o with
  | none => rfl
  | some u => rw [hid_sub _ _ _ _ hb] at q2; cases q2
structure FrnL (Z : PL.Ctx) (l : Addr) (r : Rel α) (us : List V) (xs : List α) : Prop where
  h : Z.b.H0 l = some (.lst us)
  g : Z.b.G0 l = none
  p : Paired (r.rd Z.b.G0) us xs
  n : xs.length ≤ sizeLine
theorem Env.lentFL {G H : Hp} {σ : L2.St} {i : Nat} {l : Addr} {us : List V} (E : Env Z G H σ) (F : FrnL Z l r us xs) (hz : Z.sl[i]? = some (.val rRef l)) :
    G l = none ∧ Env ⟨⟨upd Z.b.G0 l (.lst us), Z.b.H0, Z.b.ab⟩, Z.sl.set i (.val (rL X.K r) xs), Z.ce⟩ (upd G l (.lst us)) H σ := by
  have hG : G l = none := E.ex.n l (by rw [F.h]; exact fun z => by cases z) F.g
  have hH := E.ex.h _ _ F.h
  have s1 : Same G (upd G l (.lst us)) := same_upd hG
  have ne : ∀ c ∈ Z.ce, c.addr ≠ l := fun c hc z => by
    have := (E.ce c hc).1
    rw [z, F.h] at this; cases this
  obtain ⟨v, g1, g2⟩ := E.get hz
  obtain rfl : v = .ref l := g2
  have E0 : Env ⟨⟨upd Z.b.G0 l (.lst us), Z.b.H0, Z.b.ab⟩, Z.sl, Z.ce⟩ (upd G l (.lst us)) H σ := by
    refine ⟨⟨fun b u q => ?_, fun b u q => ?_, E.ex.h, fun b q1 q2 => ?_⟩, fun B hB => (E.ab B hB).trans s1, fun k sl hk => ?_, fun c hc => ?_, E.nd⟩
    · by_cases hb : b = l
      · subst hb
        have q : upd Z.b.G0 b (.lst us) b = some u := q
        rw [upd_same] at q ⊢; exact q
      · have q : upd Z.b.G0 l (.lst us) b = some u := q
        rw [upd_ne hb] at q ⊢; exact E.ex.g b u q
    · by_cases hb : b = l
      · subst hb; rw [upd_same] at q; cases q; exact .inl hH
      · rw [upd_ne hb] at q; exact E.ex.s b u q
    · by_cases hb : b = l
      · subst hb
        have q2 : upd Z.b.G0 b (.lst us) b = none := q2
        rw [upd_same] at q2; cases q2
      · have q2 : upd Z.b.G0 l (.lst us) b = none := q2
        rw [upd_ne hb] at q2 ⊢; exact E.ex.n b q1 q2
    · obtain ⟨ov, k1, k2⟩ := E.sl k sl hk
      exact ⟨ov, k1, Slot.ok_mono s1 k2⟩
    · obtain ⟨c0, cG, u, cH, cI⟩ := E.ce c hc
      exact ⟨c0, by rw [upd_ne (ne c hc)]; exact cG, u, cH, Cell.is_mono s1 cI⟩
  have E3 := E0.setv (i := i) (s := .val (rL X.K r) xs) (ov := some (.ref l)) ⟨.ref l, rfl, l, us, rfl, SqL.of upd_same, pmono (fun _ _ q => r.mono (E.ex.g.trans s1) q) F.p, F.n⟩
  have e : σ.set i (some (.ref l)) = σ := by
    apply List.ext_getElem?
    intro k
    by_cases hk : i = k
    · subst hk
      have hl := (List.getElem?_eq_some_iff.mp g1).1
      rw [List.getElem?_set_self hl, g1]
    · rw [List.getElem?_set_ne hk]
  rw [e] at E3
  exact ⟨hG, E3⟩
theorem ef_lentFL (i : Nat) {l : Addr} {us : List V} {ys : List β} (F : FrnL Z l r us xs) (hf : NoL s) (hz : Z.sl[i]? = some (.val rRef l)) (h : EvF X e ⟨⟨upd Z.b.G0 l (.lst us), Z.b.H0, Z.b.ab⟩, Z.sl.set i (.val (rL X.K r) xs), Z.ce⟩ s ys) : EvF X e Z s ys := fun G H σ Q E k => by
  obtain ⟨hG, E'⟩ := E.lentFL (X := X) F hz
  refine h _ H σ Q E' fun G2 H2 q ws e2 q1 q2 q3 q4 q5 => k (hid G2 l) H2 q ws (lent_ext hG e2) q1 ?_ q3 (pmono (fun _ _ g => hf _ _ _ _ _ g (e2.g _ _ upd_same)) q4) q5
  cases hb : hid G2 l q with
  | none => rfl
  | some u => rw [hid_sub _ _ _ _ hb] at q2; cases q2
end
/-! ### a def whose last of three parameters is a list that it changes -/
section
variable {X : Cx} {Z : PL.Ctx} {α β ζ τ : Type} {r : Rel α} {s : Rel β} {rt : Rel τ} {x : α} {y : β} {pos p : Pos} {a b : Expr} {n v : Str} {k : Nat} {Zl : List τ → PL.Ctx}
theorem es_v3 (i j : Nat) {o : Addr} {rz : Rel ζ} {f : List τ → α → β → Rs (ζ × List τ)} {px : Pos} (t : List τ) (C : CallOk X.prog X.w X.K X.mg X.base n k (spV rt (B3 r s rz f))) (hr : Room k X.A) (ha : EvE X a Z r x) (hb1 : EvE X b Z s y)
    (hz : Z.sl[i]? = some (.val rRef o)) (hj : Z.ce[j]? = some (.lst o rt t)) (hset : ∀ u, Zl u = Z.setC (Z.ce.set j (.lst o rt u)) := by intro _; rfl)
    (hg : Gl X n := by rfl) (hdb : (n == ("__debug__" : Str)) = false := by decide) (he : starEach [a, b, .Name v px] X.env = (false, eval a X.env) :: starEach [b, .Name v px] X.env := by rfl) (he1 : starEach [b, .Name v px] X.env = (false, eval b X.env) :: starEach [.Name v px] X.env := by rfl) (he2 : starEach [.Name v px] X.env = (false, eval (.Name v px) X.env) :: starEach [] X.env := by rfl) (hpl : (backTo pos (starEach [b, .Name v px] X.env)).any (·.1) = false := by rfl)
    (hN : X.N[i]? = some v := by rfl) (hv : Vis X.env.scope v := by first | exact Or.inl rfl | exact Or.inr (Or.inl rfl) | exact Or.inr (Or.inr rfl)) (hd : (v == ("__debug__" : Str)) = false := by decide) (hcd : (v == ("__classdict__" : Str)) = false := by decide) :
    EvS X (.Call (.Name n p) [a, b, .Name v px] [] pos) Z Zl rz (f t x y) := fun q hq G H σ Q E kk => by
  obtain ⟨g, fd, ps, F, hm, hk, hb⟩ := C
  obtain ⟨w, g1, g2⟩ := E.get hz
  obtain rfl : w = .ref o := g2
  refine toE (pe_call (E := fun _ _ _ => False) F hr hg hm hk hb .nil pass0 (pa_cons ce (pa_cons ce (pa_cons (pe_var hN hv hd hcd) pa_nil he2) he1) he) hdb he hpl) (ha G H σ _ E fun G1 H1 u e1 r1 => hb1 G1 H1 σ _ (E.ext e1) fun G2 H2 u2 e2 r2 => ⟨.ref o, g1, ?_⟩)
  have E1 := (E.ext e1).ext e2
  obtain ⟨c0, cG, ws, cH, cP, cL⟩ := Cell.ok_lst (E1.ce _ (List.mem_of_getElem? hj))
  refine ⟨o, [u, u2], [.val r x, .val s y], G2, ws, t, q.2, _, rfl, ⟨x, y, q.1, rfl, hq, rfl⟩, e2.s, cH, cG, cP, cL, .cons (r.mono e2.g r1) (.cons r2 .nil), fun G3 H3 z ws' e3 k1 k2 k3 k4 k5 => ?_⟩
  exact kk G3 H3 z ((e1.g.trans e2.g).trans e3.g) (by rw [hset]; exact E1.byref hj e3 k1 k2 k3 k4) k5
end
end PL

/-! xs[lo:hi:step] of a list, xs[::-1] too. -/
namespace PL
open PySem PySem.Spec PyProof.Rows L2
def pickL {α : Type} (xs : List α) (lo hi st : Option Int) : List α := (sliceRange (sliceBounds lo hi st xs.length).1 (sliceBounds lo hi st xs.length).2.1 (sliceBounds lo hi st xs.length).2.2).filterMap (xs[·]?)
theorem pickL_mem {α : Type} {xs : List α} {lo hi st : Option Int} {x : α} (h : x ∈ pickL xs lo hi st) : x ∈ xs := by
  unfold pickL at h
  obtain ⟨i, _, e⟩ := List.mem_filterMap.mp h
  exact List.mem_of_getElem? e
theorem paired_at {R : V → α → Prop} : ∀ {vs : List V} {xs : List α}, Paired R vs xs → ∀ i : Nat, (vs[i]? = none ∧ xs[i]? = none) ∨ ∃ v x, vs[i]? = some v ∧ xs[i]? = some x ∧ R v x
  | _, _, .nil, _ => .inl ⟨rfl, rfl⟩
  | _, _, .cons h t, 0 => .inr ⟨_, _, rfl, rfl, h⟩
  | _, _, .cons h t, i + 1 => paired_at t i
theorem paired_pick {R : V → α → Prop} {vs : List V} {xs : List α} (h : Paired R vs xs) : ∀ is : List Nat, Paired R (is.filterMap (vs[·]?)) (is.filterMap (xs[·]?))
  | [] => .nil
  | i :: is => by
    rw [List.filterMap_cons, List.filterMap_cons]
    rcases paired_at h i with ⟨q1, q2⟩ | ⟨v, x, q1, q2, q3⟩
    · rw [q1, q2]; exact paired_pick h is
    · rw [q1, q2]; exact .cons q3 (paired_pick h is)
theorem vals_look {xs : List V} {us : List Value} (h : Vals xs us) : ∀ i : Nat, (xs[i]? = none ∧ us[i]? = none) ∨ ∃ x u, xs[i]? = some x ∧ us[i]? = some u ∧ RelV x u := by
  induction h with
  | nil => exact fun _ => .inl ⟨rfl, rfl⟩
  | cons h t ih =>
    intro i
    cases i with
    | zero => exact .inr ⟨_, _, rfl, rfl, h⟩
    | succ i => exact ih i
theorem vals_pick {xs : List V} {us : List Value} (h : Vals xs us) : ∀ is : List Nat, Vals (is.filterMap (xs[·]?)) (is.filterMap (us[·]?))
  | [] => .nil
  | i :: is => by
    rw [List.filterMap_cons, List.filterMap_cons]
    rcases vals_look h i with ⟨q1, q2⟩ | ⟨v, x, q1, q2, q3⟩
    · rw [q1, q2]; exact vals_pick h is
    · rw [q1, q2]; exact .cons q3 (vals_pick h is)
theorem pickL_len {α : Type} (xs : List α) (lo hi st : Option Int) : (pickL xs lo hi st).length ≤ xs.length := by
  unfold pickL
  refine Nat.le_trans (List.length_filterMap_le _ _) (sliceRange_length_le _ _ _ _ (fun hc => ?_) fun hc => ?_)
  · simp only [sliceBounds] at hc ⊢
    simp only [hc, if_true]
    constructor
    · cases lo with
      | none => simp
      | some i => dsimp only; omega
    · cases hi with
      | none => simp
      | some i => dsimp only; omega
  · simp only [sliceBounds] at hc ⊢
    simp only [hc, if_false]
    constructor
    · cases lo with
      | none => simp
      | some i => dsimp only; omega
    · cases hi with
      | none => simp
      | some i => dsimp only; omega
section
variable {X : Cx} {Z : PL.Ctx} {a e : Expr} {lo hi : Option Expr} {st : Expr} {pos p2 : Pos} {α : Type} {r : Rel α} {xs : List α} {i j k : Option Int}
def tSl3 (K : PySem.W.Frag) (te : TE) (tl th ts : TO) : TE := fun σ H Q => te σ H fun x H1 => tl σ H1 fun l H2 => th σ H2 fun u H3 => ts σ H3 fun c H4 => c ≠ some 0 ∧ ∃ a xs, x = .ref a ∧ SqL K H4 a xs ∧ ∀ p, H4 p = none → Q (.ref p) (upd H4 p (.lst (pickL xs l u c)))
theorem pe_slice3 {te : TE} {tl th ts : TO} (he : PE X e te) (hl : PO X lo tl) (hu : PO X hi th) (hs : PO X (some st) ts) : PE X (.Subscript e (.Slice lo hi (some st) p2) pos) (tSl3 X.K te tl th ts) := by
  refine ⟨fun pins s σ H Q I h => Subscript_ (thn (he.run pins s σ H _ I h) fun v s1 ⟨x, H1, I1, r1, q1⟩ => ?_)⟩
  refine wpAny_Slice (thn (hl.run pins s1 σ H1 _ I1 q1) fun vl s2 ⟨l, H2, I2, pl, q2⟩ => thn (hu.run pins s2 σ H2 _ I2 q2) fun vu s3 ⟨u, H3, I3, pu, q3⟩ => thn (hs.run pins s3 σ H3 _ I3 q3) fun vs s4 ⟨c, H4, I4, ps, q4⟩ => ?_)
  have I5 : Inv X pins σ H4 { s4 with heap := s4.heap.push { cls := .type "slice", data := .fields #[vl, vu, vs] } } := I4.kept (t' := s4.toks) fun b ob q => Heap.get?_push_of_some _ q
  obtain ⟨q0, a, xs, rfl, hx, q⟩ := q4
  cases r1
  obtain ⟨its, ri, ht, hz⟩ := I5.list hx
  have hlen := ri.length
  show wpAny (model X.prog X.w) X.A (subscriptTail e (.Slice lo hi (some st) p2) (.ref a) (.ref s4.heap.objs.size)) (EP X pins σ Q) X.xe { s4 with heap := s4.heap.push { cls := .type "slice", data := .fields #[vl, vu, vs] } }
  refine tail_any (ops := [.ref a, .ref s4.heap.objs.size]) ht.isList.typeIs slot_list_getitem.lookup (wpAny_getItem_list_slice ht.isList (Heap.IsSliceOf.new ..) pl pu ps q0 ?_ (by rw [List.size_toArray] <;> omega)) (by with_unfolding_all rfl)
  have e1 : slicePick its.toArray l u c = (pickL its l u c).toArray := by
    unfold slicePick pickL
    simp only [List.size_toArray, List.getElem?_toArray]
  have e2 : its.length = xs.length := hlen.symm
  rw [e1]
  refine ⟨.ref _, _, I5.laid (t' := s4.toks) (o := .lst (pickL xs l u c)) (fun b ob q => Heap.get?_push_of_some _ q) (Nat.le_refl _) ?_, rfl, q _ (I5.hok.fresh (Nat.le_refl _))⟩
  refine ⟨Nat.le_trans (pickL_len ..) hz, _, 0, ?_, Heap.get?_push_size _ rfl⟩
  unfold pickL
  rw [e2]
  exact vals_pick ri _
def tOpt (X : Cx) : Option Expr → TO
  | none => tNoPart
  | some e => tPart (wE X e)
theorem po_opt : ∀ oe : Option Expr, PO X oe (tOpt X oe)
  | none => po_none
  | some _ => po_some ce
theorem opt_run {oe : Option Expr} {o : Option Int} {G H : Hp} {σ : L2.St} {Q : Option Int → Hp → Prop} (h : EvO X oe Z o) (E : Env Z G H σ) (k : ∀ G' H', Ext G H G' H' → Q o H') : tOpt X oe σ H Q := by
  cases oe with
  | none =>
    cases o with
    | none => exact k G H (.refl E.le)
    | some _ => exact h.elim
  | some e =>
    cases o with
    | none => exact h.elim
    | some i =>
      have h' : EvE X e Z rI i := h
      exact h' G H σ _ E fun G1 H1 v e1 h1 => ⟨i, h1, k G1 H1 e1⟩
theorem ef_pick (ha : EvE X a Z (rL X.K r) xs) (hl : EvO X lo Z i) (hh : EvO X hi Z j) (hs : EvO X (some st) Z k) (h0 : k ≠ some 0 := by decide) : EvF X (.Subscript a (.Slice lo hi (some st) p2) pos) Z r (pickL xs i j k) := fun G H σ Q E q =>
  toE (pe_slice3 ce (po_opt lo) (po_opt hi) (po_opt (some st))) (ha G H σ _ E fun G1 H1 v e1 h1 => opt_run hl (E.ext e1) fun G2 H2 e2 => opt_run hh ((E.ext e1).ext e2) fun G3 H3 e3 => opt_run hs (((E.ext e1).ext e2).ext e3) fun G4 H4 e4 => by
    have e5 := (e2.trans e3).trans e4
    obtain ⟨l, us, rfl, h3, h4, h5⟩ := (rL X.K r).mono e5.g h1
    refine ⟨h0, l, us, rfl, e4.s.seq h3, fun t ht => q _ _ _ _ ((e1.trans e5).trans (.newM e4.s ht)) (((e1.trans e5).h).free ht) (e4.s.free ht) upd_same ?_ (Nat.le_trans (pickL_len ..) h5)⟩
    have el : us.length = xs.length := plen h4
    unfold pickL
    rw [el]
    exact paired_pick h4 _)
end
end PL

/-! != of lists of two things each, a dict and a list, say. -/
namespace PySem.SeqAt
open AutoSeq1 (wpAny_loadPart')
open MeetsSeq MeetsSeq2 MeetsSeq3 SeqRoads2
section
variable {prog : Program} {w : World}
variable {e0 e1 : Bool}
def At2 (prog : Program) (w : World) (l b : Addr) (x0 x1 y0 y1 : Value) (n n2 : Nat) (dd dd2 : Option Addr) (sl sl2 : Array (Option Value)) (e0 e1 : Bool) (A : Around) (s : Shared) : Prop :=
  s.heap.get? l = some { cls := .type "list", dict := dd, data := .seq #[x0, x1] n, slots := sl } ∧ s.heap.get? b = some { cls := .type "list", dict := dd2, data := .seq #[y0, y1] n2, slots := sl2 } ∧ EqIn prog w A.in1 s x0 y0 e0 ∧ EqIn prog w A.in1 s x1 y1 e1
theorem ne_step2 {l b : Addr} {x0 x1 y0 y1 : Value} {n n2 : Nat} {dd dd2 : Option Addr} {sl sl2 : Array (Option Value)} {u v : Value} (i : Nat) {e r : Bool} (hx : (#[x0, x1] : Array Value)[((i : Nat) : Int).toNat]? = some u) (hy : (#[y0, y1] : Array Value)[((i : Nat) : Int).toNat]? = some v)
    (hu : ∀ A s, At2 prog w l b x0 x1 y0 y1 n n2 dd dd2 sl sl2 e0 e1 A s → EqIn prog w A.in1 s u v e)
    (next : MeetsIn prog w (Builtin.«list.__eq__.loop» ⟨[.ref l, .ref b, rawInt ((i + 1 : Nat) : Int), rawInt 3], []⟩) (fun A R s => At2 prog w l b x0 x1 y0 y1 n n2 dd dd2 sl sl2 e0 e1 A s ∧ R (.ok (.ret (.bool r))) s)) :
    MeetsIn prog w (Builtin.«list.__eq__.loop» ⟨[.ref l, .ref b, rawInt (i : Int), rawInt 3], []⟩) (fun A R s => At2 prog w l b x0 x1 y0 y1 n n2 dd dd2 sl sl2 e0 e1 A s ∧ R (.ok (.ret (.bool (if e then r else true)))) s) := by
  intro A R s h
  obtain ⟨ha, h⟩ := h
  have he := hu A s ha
  obtain ⟨hp, g, d, tk, os⟩ := s
  obtain ⟨hl, hb, h0, h1⟩ := id ha
  wp_walk using wpAny_loadPart' hl, wpAny_loadPart' hb
  rw [hx, hy]
  refine wpAny_bind (he _ _ ?_)
  cases e with
  | true =>
    wp_walk
    rw [show ((i : Int) + 1) = ((i + 1 : Nat) : Int) by push_cast; rfl]
    exact ⟨plainId_quiet plain_eq_loop _, codeAny_builtin entry_eq_loop (by
      rw [Around.under_plainId plain_eq_loop _]
      exact next A R _ ⟨ha, h⟩)⟩
  | false =>
    wp_walk using wpAny_loadPart' hl, wpAny_loadPart' hb
    rw [hx, hy]
    wp_walk
    exact h
theorem ne_end2 {l b : Addr} {x0 x1 y0 y1 : Value} {n n2 : Nat} {dd dd2 : Option Addr} {sl sl2 : Array (Option Value)} :
    MeetsIn prog w (Builtin.«list.__eq__.loop» ⟨[.ref l, .ref b, rawInt ((1 + 1 : Nat) : Int), rawInt 3], []⟩) (fun A R s => At2 prog w l b x0 x1 y0 y1 n n2 dd dd2 sl sl2 e0 e1 A s ∧ R (.ok (.ret (.bool false))) s) := by
  intro A R s h
  obtain ⟨hp, g, d, tk, os⟩ := s
  obtain ⟨⟨hl, hb, h0, h1⟩, h⟩ := h
  wp_walk using wpAny_loadPart' hl, wpAny_loadPart' hb
  exact h
theorem list_ne2 (l b : Addr) (x0 x1 y0 y1 : Value) (n n2 : Nat) (dd dd2 : Option Addr) (sl sl2 : Array (Option Value)) (e0 e1 : Bool) :
    MeetsIn prog w (Builtin.«list.__ne__» ⟨[.ref l, .ref b], []⟩) (fun A R s => At2 prog w l b x0 x1 y0 y1 n n2 dd dd2 sl sl2 e0 e1 A s ∧ R (.ok (.ret (.bool (!(e0 && e1))))) s) := by
  intro A R s h
  obtain ⟨hp, g, d, tk, os⟩ := s
  obtain ⟨ha, h⟩ := h
  obtain ⟨hl, hb, h0, h1⟩ := id ha
  have f3 := AutoSeq1.sub_list_list
  wp_walk using wpAny_loadPart' hl, wpAny_loadPart' hb
  have key := ne_step2 (e0 := e0) (e1 := e1) (prog := prog) (w := w) (l := l) (b := b) (n := n) (n2 := n2) (dd := dd) (dd2 := dd2) (sl := sl) (sl2 := sl2) 0 (x0 := x0) (x1 := x1) (y0 := y0) (y1 := y1) (u := x0) (v := y0) (e := e0) rfl rfl (fun A s q => q.2.2.1) (ne_step2 1 (u := x1) (v := y1) (e := e1) rfl rfl (fun A s q => q.2.2.2) ne_end2)
  exact ⟨plainId_quiet plain_eq_loop _, codeAny_builtin entry_eq_loop (by
    rw [Around.under_plainId plain_eq_loop _]
    exact key A R _ ⟨ha, by cases e0 <;> cases e1 <;> exact h⟩)⟩
theorem rc_ne2 {A : Around} {s : Shared} {l b : Addr} {x0 x1 y0 y1 : Value} {e0 e1 : Bool} (hl : s.heap.IsList l #[x0, x1]) (hb : s.heap.IsList b #[y0, y1]) (hu : A.units < cLine) (h0 : EqIn prog w A.in1 s x0 y0 e0) (h1 : EqIn prog w A.in1 s x1 y1 e1)
    (E Q : Value → Shared → Prop) (h : Q (.bool (!(e0 && e1))) s) : wpAny (model prog w) A (richCompare .NotEq (.ref l) (.ref b)) Q E s := by
  obtain ⟨⟨cls, dd, data, sl⟩, ho, hc, n, hd⟩ := id hl
  obtain ⟨⟨cls2, dd2, data2, sl2⟩, ho2, hc2, n2, hd2⟩ := id hb
  simp only at hc hd hc2 hd2
  subst hc hd hc2 hd2
  have ta : s.TypeIs (.ref l) "list" := ⟨_, ho, rfl⟩
  have tb : s.TypeIs (.ref b) "list" := ⟨_, ho2, rfl⟩
  exact wpAny_richCompare_same_room (op := .NotEq) ta tb F.slot_list_ne (call_meetsIn F.slot_list_ne ta F.entry_list_ne (F.args_list_ne_2 _ _) (list_ne2 l b x0 x1 y0 y1 n n2 dd dd2 sl sl2 e0 e1)
    ⟨⟨ho, ho2, h0, h1⟩, show Value.bool (!(e0 && e1)) ≠ Value.notImplemented ∧ Q (.bool (!(e0 && e1))) s from ⟨(fun x => nomatch x), h⟩⟩) hu
end
end PySem.SeqAt

/-! [d, l] != [d', l']. -/
namespace PL
open PySem PySem.Spec PyProof.Rows L2
section
variable {α β : Type} {r : Rel α} {s : Rel β} {kvs kvs' : List (Text × α)}
theorem hits_at [DecidableEq α] {K : PySem.W.Frag} {n : Nat} (d : DataR K r n) (hn : n ≤ 60) {X : Cx} {pins : List (Addr × Obj)} {σ : L2.St} {G H : Hp} {sh : Shared} (I : Inv X pins σ H sh) (hK : X.K = K) {A : Around} (hu : A.units + 70 < cLine) (sm : SmF G H) {us' : List (Key × V)} {vs' : List (Key × Value)} (g' : Paired (ent r G) us' kvs') (kv' : KV us' vs') :
    ∀ {us : List (Key × V)} {vs : List (Key × Value)} {kvs : List (Text × α)}, Paired (ent r G) us kvs → KV us vs → PySem.W.KeqHits A.in1 sh vs' vs (kvs.all fun q => decide (dget kvs' q.1 = some q.2))
  | _, _, _, .nil, .nil => .nil
  | _, _, _, .cons (a := p) (b := q) g gt, .cons (b := w) h ht => by
    obtain ⟨k, v⟩ := p
    obtain ⟨k1, v1⟩ := w
    obtain ⟨g1, g2, g3⟩ := g
    obtain ⟨h1, h2⟩ := h
    have g1 : k = Sum.inr (mkS q.1) := g1
    have h1 : k = k1 := h1
    subst h1
    subst g1
    have ih := hits_at d hn I hK hu sm g' kv' gt ht
    have rv := kv'.val (Sum.inr (mkS q.1))
    rw [List.all_cons]
    rcases ent_get (t := q.1) g' with ⟨q1, q2⟩ | ⟨v', z, q1, q2, q3⟩
    · rw [q1] at rv
      rw [q2, decide_eq_false (fun z => by cases z), Bool.false_and]
      refine .miss ?_
      cases e : valueAt vs' (Sum.inr (mkS q.1) : Key) with
      | none => rfl
      | some y => rw [e] at rv; exact rv.elim
    · rw [q1] at rv
      cases e : valueAt vs' (Sum.inr (mkS q.1) : Key) with
      | none => rw [e] at rv; exact rv.elim
      | some y =>
        rw [e] at rv
        have ed : decide (dget kvs' q.1 = some q.2) = PyData.eqv (d.toD q.2) (d.toD z) := by
          rw [q2]
          cases ee : PyData.eqv (d.toD q.2) (d.toD z) with
          | true => exact decide_eq_true (by rw [(d.eqv _ _).mp ee])
          | false => exact decide_eq_false fun w => by rw [(d.eqv _ _).mpr (Option.some.inj w).symm] at ee; cases ee
        rw [ed]
        subst hK
        obtain ⟨as, r1⟩ := Dp.reads I _ v v1 (strs_mono sm _ _ (d.dp _ _ _ g2)) h2
        obtain ⟨bs, r2⟩ := Dp.reads I _ v' y (strs_mono sm _ _ (d.dp _ _ _ q3)) rv
        exact .hit e (PySem.W.keq_at r1 r2 (shaped_of (d.lay _ _ _ g2) (d.dep _) (by omega)) (shaped_of (d.lay _ _ _ q3) (d.dep _) (by omega)) (by show A.units + 1 + 64 < cLine; omega)) ih
theorem ent_one {K : PySem.W.Frag} {n : Nat} (d : DataR K r n) {X : Cx} {pins : List (Addr × Obj)} {σ : L2.St} {G H : Hp} {sh : Shared} (I : Inv X pins σ H sh) (hK : X.K = K) (sm : SmF G H) : ∀ {us : List (Key × V)} {vs : List (Key × Value)} {kvs kvs' : List (Text × α)}, KV us vs → Paired (ent r G) us kvs → Paired (ent r G) us kvs' → kvs = kvs'
  | _, _, _, _, .nil, .nil, .nil => rfl
  | _, _, _, _, .cons (b := w) h ht, .cons (b := p) g gt, .cons (b := q) g' gt' => by
    obtain ⟨k1, v1⟩ := w
    obtain ⟨p1, p2⟩ := p
    obtain ⟨q1, q2⟩ := q
    obtain ⟨a1, a2, _⟩ := g
    obtain ⟨b1, b2, _⟩ := g'
    have e1 : p1 = q1 := mkS_inj (Sum.inr.inj (a1.symm.trans b1))
    subst hK
    obtain ⟨as, r1⟩ := Dp.reads I _ _ v1 (strs_mono sm _ _ (d.dp _ _ _ a2)) h.2
    obtain ⟨bs, r2⟩ := Dp.reads I _ _ v1 (strs_mono sm _ _ (d.dp _ _ _ b2)) h.2
    have e2 := (Reads.unique r1 _ _ r2).1
    have e3 : p2 = q2 := (d.eqv _ _).mp (by rw [e2]; exact (d.eqv _ _).mpr rfl)
    rw [e1, e3, ent_one d I rfl sm ht gt gt']
theorem dget_self {q : Text × α} : ∀ {kvs : List (Text × α)}, (kvs.map (·.1)).Nodup → q ∈ kvs → dget kvs q.1 = some q.2
  | p :: l, h, hq => by
    rw [List.map_cons, List.nodup_cons] at h
    unfold dget
    rcases List.mem_cons.mp hq with rfl | hq
    · rw [if_pos rfl]
    · rw [if_neg fun z => h.1 (by rw [z]; exact List.mem_map.mpr ⟨q, hq, rfl⟩)]
      exact dget_self h.2 hq
theorem dEq_self [DecidableEq α] {kvs : List (Text × α)} (h : (kvs.map (·.1)).Nodup) : dEq kvs kvs = true := by
  unfold dEq
  rw [beq_self_eq_true, Bool.true_and, List.all_eq_true]
  exact fun q hq => decide_eq_true (dget_self h hq)
def rNeHD {α β : Type} [DecidableEq α] [DecidableEq β] (K : PySem.W.Frag) : L2.R2 := fun x y H Q => ∃ (G : Hp) (r : Rel α) (s : Rel β) (n m : Nat) (d : DataR K r n) (c : DataR K s m) (p q : List (Text × α) × List β), (rH2 K (rD r) (rL K s)).rd G x p ∧ (rH2 K (rD r) (rL K s)).rd G y q ∧ n ≤ 60 ∧ m ≤ 60 ∧ SmF G H ∧ Q (.bl (!(dEq p.1 q.1 && decide (p.2 = q.2)))) H
end
section
variable {X : Cx} {Z : PL.Ctx} {α β : Type} {r : Rel α} {s : Rel β} {a b : Expr}
theorem op_neHD [DecidableEq α] [DecidableEq β] (hu : X.A.units + 80 < cLine) : OpR X (compareOp .NotEq) (rNeHD (α := α) (β := β) X.K) := by
  intro pins sh σ H x y v u Q I rx ry h
  obtain ⟨G, r, s, n, m, d, c, p, q, ⟨a, v1, v2, rfl, hA, hd1, hl1⟩, ⟨b, w1, w2, rfl, hB, hd2, hl2⟩, hn, hm, sm, hQ⟩ := h
  obtain rfl : v = Value.ref a := rx
  obtain rfl : u = Value.ref b := ry
  obtain ⟨its, ri, ht, _⟩ := I.list (sm.seq hA)
  obtain ⟨its', ri', ht', _⟩ := I.list (sm.seq hB)
  have r2 : ∀ {x1 x2 : V} {us : List Value}, Vals [x1, x2] us → ∃ u1 u2, us = [u1, u2] ∧ RelV x1 u1 ∧ RelV x2 u2 := fun h => by
    cases h with
    | cons h1 h => cases h with
      | cons h2 h => cases h; exact ⟨_, _, rfl, h1, h2⟩
  obtain ⟨x1, x2, rfl, a1, a2⟩ := r2 ri
  obtain ⟨y1, y2, rfl, b1, b2⟩ := r2 ri'
  have h2 : SeqAt.EqIn X.prog X.w X.A.in1 sh x2 y2 (decide (p.2 = q.2)) := by
    have ed : decide (p.2 = q.2) = PyData.eqv ((dL c).toD p.2) ((dL c).toD q.2) := by
      cases ee : PyData.eqv ((dL c).toD p.2) ((dL c).toD q.2) with
      | true => exact decide_eq_true (((dL c).eqv _ _).mp ee)
      | false => exact decide_eq_false fun w => by rw [((dL c).eqv _ _).mpr w] at ee; cases ee
    rw [ed]
    obtain ⟨as, q1⟩ := Dp.reads I _ v2 x2 (strs_mono sm _ _ ((dL c).dp _ _ _ hl1)) a2
    obtain ⟨bs, q2⟩ := Dp.reads I _ w2 y2 (strs_mono sm _ _ ((dL c).dp _ _ _ hl2)) b2
    exact SeqAt.EqAt.inModel (PySem.W.keq_at q1 q2 (shaped_of ((dL c).lay _ _ _ hl1) ((dL c).dep _) (by omega)) (shaped_of ((dL c).lay _ _ _ hl2) ((dL c).dep _) (by omega)) (by show X.A.units + 1 + 64 < cLine; omega)) _ _
  have h1 : SeqAt.EqIn X.prog X.w X.A.in1 sh x1 y1 (dEq p.1 q.1) := by
    obtain ⟨o1, us1, rfl, k1, k2, k3, k4⟩ := hd1
    obtain ⟨o2, us2, rfl, m1, m2, m3, m4⟩ := hd2
    obtain rfl : x1 = Value.ref o1 := a1
    obtain rfl : y1 = Value.ref o2 := b1
    obtain ⟨_, ya, va, ra, da⟩ := dk_rd I.hok (sm.dk k1)
    obtain ⟨_, yb, vb, rb, db⟩ := dk_rd I.hok (sm.dk m1)
    by_cases ho : o1 = o2
    · subst ho
      rw [k1] at m1
      cases m1
      have := ent_one d I rfl sm ra k2 m2
      rw [← this, dEq_self k4]
      exact SeqAt.EqAt.inModel (SeqAt.EqAt.same _) _ _
    · refine SeqAt.EqIn.of_refs ho fun E Q' hq => ?_
      refine PySem.W.keq_eq (knd := mixKind X.prog X.w) (A := X.A.in1) ya yb da db (by show X.A.units + 1 < cLine; omega) (fun _ => hits_at d hn I rfl (by show X.A.units + 1 + 70 < cLine; omega) sm m2 rb k2 ra) ?_
      have e : (va.length == vb.length) = (p.1.length == q.1.length) := by rw [← ra.length, ← rb.length, plen k2, plen m2]
      rw [e]
      exact hq
  exact SeqAt.rc_ne2 ht.isList ht'.isList (by omega) h1 h2 _ _ ⟨.bl _, H, I, rfl, hQ⟩
theorem cm_neHD [DecidableEq α] [DecidableEq β] {n m k : Nat} {p q : List (Text × α) × List β} (d : DataR X.K r n) (c : DataR X.K s m) (hr : Room k X.A) (ha : EvE X a Z (rH2 X.K (rD r) (rL X.K s)) p) (hb : EvE X b Z (rH2 X.K (rD r) (rL X.K s)) q) (hn : n ≤ 60 := by decide) (hm : m ≤ 60 := by decide) : CmpE X .NotEq a b Z (!(dEq p.1 q.1 && decide (p.2 = q.2))) :=
  cm2 (op_neHD (α := α) (β := β) (by have := hr.un; omega)) (nomark _) ha hb fun G H v w Q sm h1 h2 k => ⟨G, r, s, n, m, d, c, p, q, h1, h2, hn, hm, sm, k G H _ (.refl sm) rfl⟩
end
end PL

namespace PL
open PySem PySem.Spec PyProof.Rows L2
/-! isinstance(dict), is None of an instance. -/
section
variable {K : PySem.W.Frag} {α : Type} {r : Rel α}
theorem ty_D : OfTy K (rD r) "dict" := fun G H v x q ⟨o, us, h1, h2, _⟩ => by
  subst h1
  rcases q.dk h2 with h | ⟨u, h⟩
  · exact .base (.dK h)
  · exact .fDict h
theorem nn_Obj {C : Addr} {fs : α → List (Str × Slot)} : ∀ G y, ¬ (rObj C fs).rd G .non y := fun _ _ ⟨_, _, _, h, _⟩ => by cases h
end
end PL

namespace Lw
open PySem PySem.Spec PyProof.Rows L2 PL Tp
/-! ### rulebooks, plainly -/
def isOf (w s : Text) (lo hi : Int) : Bool := (decide (lo ≤ (w.length : Int)) && decide ((w.length : Int) ≤ hi)) && w.all fun c => decide (c ∈ s)
def lets : Text := tx (Str.ofString "abcdefghijklmnopqrstuvwxyz")
def lsgn : Text := tx (Str.ofString "abcdefghijklmnopqrstuvwxyz0123456789")
def fits (e : Text × Text × Int) : Bool := isOf e.1 lets 1 8 && (isOf e.2.1 lets 0 (e.1.length : Int) && (decide (1 ≤ e.2.2) && decide (e.2.2 ≤ 20)))
structure RB where
  tails : List (Text × Text × Int)
  hushed : List (Text × Bool)
def goodE (es : List (Text × Text × Int)) : Prop := (∀ e ∈ es, fits e = true) ∧ (es.map (·.1)).Nodup ∧ es.length ≤ 1000
def goodS (sl : List Text) : Prop := (∀ w ∈ sl, isOf w lsgn 1 20 = true) ∧ sl.Nodup ∧ sl.length ≤ 1000
def mkRB (es : List (Text × Text × Int)) (sl : List Text) : RB := ⟨es, sl.map fun w => (w, true)⟩
noncomputable def m_RB (es : List (Text × Text × Int)) (sl : List Text) : Rs RB := .gd (goodE es ∧ goodS sl) (.ok (mkRB es sl))
theorem dget_in {α : Type} {t : Text} {x : α} : ∀ {l : List (Text × α)}, dget l t = some x → (t, x) ∈ l
  | (k, y) :: l, h => by
    unfold dget at h
    split at h
    · rename_i e
      cases h
      rw [e]
      exact List.mem_cons_self ..
    · exact List.mem_cons_of_mem _ (dget_in h)
theorem dget_hush (sl : List Text) (t : Text) : (dget (sl.map fun w => (w, true)) t).isSome = decide (t ∈ sl) := by
  induction sl with
  | nil => simp [dget]
  | cons w sl ih =>
    show (if w = t then some true else dget (sl.map fun w => (w, true)) t).isSome = _
    by_cases h : w = t
    · simp [h]
    · rw [if_neg h, ih]
      have h' : ¬ t = w := fun z => h z.symm
      simp [h']
abbrev rEnd (K : PySem.W.Frag) : Rel (Text × Text × Int) := rT3 K rC rC rI
def rbF (K : PySem.W.Frag) (rb : RB) : List (Str × Slot) := [("tails", .val (rD (rT2 K rC rI)) rb.tails), ("hushed", .val (rD rB) rb.hushed)]
abbrev rRB (K : PySem.W.Frag) : Rel RB := rObj (He.ga K "Rulebook") (rbF K)
end Lw

namespace Lw
open PySem PySem.Spec PyProof.Rows L2 PL Tp
section
variable {P : Program} {w : World} {K : PySem.W.Frag} {mg : Str → Option Value} {base : Heap}
noncomputable def m_rule_is_of (word_1 : Text) (signs_2 : Text) (least_3 : Int) (most_4 : Int) : Rs Bool :=
 ((Rs.ok (decide (least_3 ≤ (word_1.length : Int)) && decide ((word_1.length : Int) ≤ most_4))).bd fun k7 => if k7 = true then (mapR (fun (x5 : Text) => sinR x5 signs_2) (word_1.map fun c => [c])).bd fun v_7 =>
 Rs.ok (v_7.all id) else Rs.ok false).bd fun z_10 => Rs.ok z_10
theorem ok_rule_is_of (T : Tx K mg) : CallOk P w K mg base "rule_is_of" 1 (spG (M4 PL.rC PL.rC PL.rI PL.rI PL.rB m_rule_is_of)) := call_rule_is_of T fun f fd F =>
  fn_d F sc_rule_is_of (by rintro ss R ⟨_, _, _, _, _, rfl, _, rfl⟩; rfl) (by
    rintro cdv A outer s H E G ss R hr ⟨word_1, signs_2, least_3, most_4,  z, rfl, hm, rfl⟩
    have nd := sc_rule_is_of.nd
    unfold m_rule_is_of at hm
    refine gm_run (D := fun z => retD G H (fun G v => (PL.rB).rd G v z)) ?_ hm
    exact gm_retM (r := PL.rB) (em_and (em_ok (ev_lele (ev_v 2) (ev_lenX T.b_len (ea_cons (ev_v 0) ea_nil)) (ev_v 3))) (em_one (em_bd (em_f (efm_lc (s := PL.rB) (own := [("sign", 4)]) rfl nd (lcr_1 (r := PL.rC) (ei_txt (ev_v 0)) fun B x5 => ⟨_, fun _ _ _ _ _ => egb_name 4 nd, fun _ _ _ _ _ => em_c (cmm_in (ev_v 4) (ev_v 1))⟩))) fun v_7 h7 =>
       em_ok (ev_all rfl T.b_all (ea_cons (h7) ea_nil))))))

noncomputable def m_rule_fits (ending_1 : Text) (instead_2 : Text) (least_3 : Int) : Rs Bool :=
 ((m_rule_is_of ending_1 (tx "abcdefghijklmnopqrstuvwxyz") (1 : Int) (8 : Int)).bd fun v_4 =>
 Rs.ok (!v_4)).bd fun k_5 =>
 if k_5 = true then
 Rs.ok false
 else ((m_rule_is_of instead_2 (tx "abcdefghijklmnopqrstuvwxyz") (0 : Int) (ending_1.length : Int)).bd fun v_6 =>
 Rs.ok (v_6 && (decide ((1 : Int) ≤ least_3) && decide (least_3 ≤ (20 : Int))))).bd fun z_7 => Rs.ok z_7
theorem ok_rule_fits (T : Tx K mg) : CallOk P w K mg base "rule_fits" 2 (spG (M3 PL.rC PL.rC PL.rI PL.rB m_rule_fits)) := call_rule_fits T fun f fd F =>
  fn_d F sc_rule_fits (by rintro ss R ⟨_, _, _, _, rfl, _, rfl⟩; rfl) (by
    rintro cdv A outer s H E G ss R hr ⟨ending_1, instead_2, least_3,  z, rfl, hm, rfl⟩
    have nd := sc_rule_fits.nd
    unfold m_rule_fits at hm
    refine gm_run (D := fun z => retD G H (fun G v => (PL.rB).rd G v z)) ?_ hm
    refine gm_ifM (etm_bd (em_c4 (ok_rule_is_of T) (hr.mono (by decide)) (ea_cons (ev_v 0) (ea_cons (ev_gtxt T.v_RULE_LETTERS) (ea_cons (ev_int) (ea_cons (ev_gint T.v_LONGEST_ENDING) ea_nil))))) fun v_4 h4 =>
       etm_ok (et_not (ev_t (h4)))) (fun k_5 => ?_) (fun k_5 => ?_)
    · exact gm_ret (r := PL.rB) (ev_bl)
    · refine gm_on ?_
      exact gm_retM (r := PL.rB) (em_bd (em_c4 (ok_rule_is_of T) (hr.mono (by decide)) (ea_cons (ev_v 1) (ea_cons (ev_gtxt T.v_RULE_LETTERS) (ea_cons (ev_int) (ea_cons (ev_lenX T.b_len (ea_cons (ev_v 0) ea_nil)) ea_nil))))) fun v_6 h6 =>
         em_ok (r := PL.rB) (ev_and (h6) fun _ => ev_one (ev_lele (ev_int) (ev_v 2) (ev_gint T.v_MOST_LEFT)))))
end
end Lw

namespace Lw
open PySem PySem.Spec PyProof.Rows L2 PL Tp
theorem inR_one (c : Nat) (s : Text) : sinR [c] s = .ok (decide (c ∈ s)) := by
  unfold sinR
  exact Rs.gd_pos rfl
theorem m_is_of (w s : Text) (lo hi : Int) : m_rule_is_of w s lo hi = .ok (isOf w s lo hi) := by
  unfold m_rule_is_of isOf
  have e : mapR (fun (x : Text) => sinR x s) (w.map fun c => [c]) = .ok ((w.map fun c => [c]).map fun t : Text => decide (t.headD 0 ∈ s)) := mapR_ok fun x hx => by
    obtain ⟨c, _, rfl⟩ := List.mem_map.mp hx
    exact inR_one c s
  simp only [Rs.bd_ok]
  cases h : (decide (lo ≤ (w.length : Int)) && decide ((w.length : Int) ≤ hi)) with
  | false => rfl
  | true =>
    rw [if_pos rfl, e]
    show Rs.ok _ = Rs.ok _
    rw [List.map_map, List.all_map]
    rfl
theorem m_fits (e : Text × Text × Int) : m_rule_fits e.1 e.2.1 e.2.2 = .ok (fits e) := by
  unfold m_rule_fits fits
  simp only [m_is_of, Rs.bd_ok]
  cases h : isOf e.1 (tx "abcdefghijklmnopqrstuvwxyz") 1 8 with
  | false =>
    rw [show isOf e.1 lets 1 8 = false from h]
    rfl
  | true =>
    rw [show isOf e.1 lets 1 8 = true from h]
    show Rs.ok _ = Rs.ok _
    rfl
section
variable {P : Program} {w : World} {K : PySem.W.Frag} {mg : Str → Option Value} {base : Heap}
theorem mk_RB (T : Tx K mg) : MakeOk P w K mg base "Rulebook" (He.ga K "Rulebook") 3 (spI (He.ga K "Rulebook") (I2 (rL K (rEnd K)) (rL K rC) (rbF K) m_RB)) := make_Rulebook T fun f fd F =>
  fn_i F sc_Rulebook_init (by rintro ss fs ⟨es, sl, z, rfl, _, rfl⟩; rfl) (by
    rintro cdv A outer s H E G o dx ss fs hr ⟨es, sl, z, rfl, hm, rfl⟩
    obtain ⟨⟨he, hs⟩, hm⟩ := Rs.gd_inv hm
    cases hm
    have hc := T.c_Rulebook
    refine goes_fldD (rT2 K rC rI) 0 hc T.n_Rulebook_tails (ev_v 0) rfl (by decide) fun m => ?_
    refine goes_for (S := List (Text × Text × Int)) (fun q => ⟨⟨G, hid H o, []⟩, [.val rRef o, .any, .val (rL K rC) sl, .any, .any, .any, .any], [.dic m (rT2 K rC rI) q, .ins o dx (He.ga K "Rulebook") [("tails", .val rRef m)]]⟩)
      (fun i q => q = es.take i) [] rfl PassesOwn.never (ei_list (ev_v 1)) rfl rfl (.same (.any (.same (.any (.any (.any (.any .nil))))))) rfl (fun B i x q hx hq => ?_) (fun q hq => ?_)
    · have hf := he.1 x (List.mem_of_getElem? hx)
      have hi := (List.getElem?_eq_some_iff.mp hx).1
      have hnew : dget q x.1 = none := by
        rw [hq]
        cases e : dget (es.take i) x.1 with
        | none => rfl
        | some y =>
          have hm := List.mem_map_of_mem (f := fun q : Text × Text × Int => q.1) (dget_in e)
          have hnd := he.2.1
          rw [← List.take_append_drop i es, List.map_append, List.nodup_append] at hnd
          have hin : x.1 ∈ (es.drop i).map (·.1) := List.mem_map_of_mem (f := fun q : Text × Text × Int => q.1) (by
            rw [List.drop_eq_getElem_cons hi, (List.getElem?_eq_some_iff.mp hx).2]
            exact List.mem_cons_self ..)
          exact absurd rfl (hnd.2.2 _ hm _ hin)
      refine ⟨_, eg_tup3 rfl (eg_name 3 sc_Rulebook_init.nd) (eg_name 4 sc_Rulebook_init.nd) (eg_name 5 sc_Rulebook_init.nd), ?_⟩
      refine goes_if (k := false) (et_cast (ev_w (ew_or (et_not (ev_t (ev_ofM (em_c3 (ok_rule_fits T) hr (ea_cons (ev_v 3) (ea_cons (ev_v 4) (ea_cons (ev_v 5) ea_nil)))) (by rw [m_fits, hf])))) fun _ => ew_or1 (et_c (cm_inDC 0 hr (ev_v 3) (ev_fldC 1 hc T.n_Rulebook_tails (ev_v 0) rfl rfl) rfl)))) (by rw [hnew]; rfl)) (fun hk => by cases hk) (fun _ => goes_on ?_)
      refine goes_putD 0 hr (ev_tup2 (ea_cons (ev_v 4) (ea_cons (ev_v 5) ea_nil))) (ev_fldC 1 hc T.n_Rulebook_tails (ev_v 0) rfl rfl) (ev_v 3) rfl (by rw [hq, List.length_take, sizeLine_eq]; have := he.2.2; omega) ?_
      refine goes_next (es.take (i + 1)) rfl rfl (.same (.any (.same (.any (.any (.any (.any .nil))))))) ?_
      rw [dput_new _ _ _ hnew, hq, List.take_add_one, hx]
      rfl
    · have hq' : q = es := by rw [hq]; exact List.take_length
      subst hq'
      refine goes_fldD rB 1 hc T.n_Rulebook_hushed (ev_v 0) rfl (by show 1 < 1000; decide) fun m2 => ?_
      refine goes_for (S := List (Text × Bool)) (fun p => ⟨⟨G, hid H o, []⟩, [.val rRef o, .any, .any, .any, .any, .any, .any], [.dic m2 rB p, .dic m (rT2 K rC rI) q, .ins o dx (He.ga K "Rulebook") [("tails", .val rRef m), ("hushed", .val rRef m2)]]⟩)
        (fun i p => p = (sl.take i).map fun w => (w, true)) [] rfl PassesOwn.never (ei_list (ev_v 2)) rfl rfl (.same (.any (.any (.any (.any (.any (.any .nil))))))) rfl (fun B i x p hx hp => ?_) (fun p hp => ?_)
      · have hf := hs.1 x (List.mem_of_getElem? hx)
        have hi := (List.getElem?_eq_some_iff.mp hx).1
        have hnew : dget p x = none := by
          have e := dget_hush (sl.take i) x
          rw [← hp] at e
          cases e2 : dget p x with
          | none => rfl
          | some y =>
            rw [e2] at e
            have hm : x ∈ sl.take i := by simpa using e.symm
            have hnd := hs.2.1
            rw [← List.take_append_drop i sl, List.nodup_append] at hnd
            have hin : x ∈ sl.drop i := by
              rw [List.drop_eq_getElem_cons hi, (List.getElem?_eq_some_iff.mp hx).2]
              exact List.mem_cons_self ..
            exact absurd rfl (hnd.2.2 _ hm _ hin)
        refine ⟨_, eg_name 6 sc_Rulebook_init.nd, ?_⟩
        refine goes_if (k := false) (et_cast (ev_w (ew_or (et_not (ev_t (ev_ofM (x := true) (em_c4 (ok_rule_is_of T) (hr.mono (by decide)) (ea_cons (ev_v 6) (ea_cons (ev_gtxt T.v_RULE_SIGNS) (ea_cons ev_int (ea_cons (ev_gint T.v_LONGEST_PLAIN) ea_nil))))) (by rw [m_is_of]; exact congrArg Rs.ok hf)))) fun _ => ew_or1 (et_c (cm_inDC 0 hr (ev_v 6) (ev_fldC 2 hc T.n_Rulebook_hushed (ev_v 0) rfl rfl) rfl)))) (by rw [hnew]; rfl)) (fun hk => by cases hk) (fun _ => goes_on ?_)
        refine goes_putD 0 hr ev_bl (ev_fldC 2 hc T.n_Rulebook_hushed (ev_v 0) rfl rfl) (ev_v 6) rfl (by rw [hp, List.length_map, List.length_take, sizeLine_eq]; have := hs.2.2; omega) ?_
        refine goes_next ((sl.take (i + 1)).map fun w => (w, true)) rfl rfl (.same (.any (.any (.any (.any (.any (.any .nil))))))) ?_
        rw [dput_new _ _ _ hnew, hp, List.take_add_one, hx, List.map_append]
        rfl
      · have hp' : p = sl.map fun w => (w, true) := by rw [hp, List.take_length]
        subst hp'
        refine goes_frzFD (f := "hushed") 0 2 rfl rfl (by decide) rfl (goes_frzFD (f := "tails") 0 1 rfl rfl (by decide) rfl (goes_endI rfl)))
end
end Lw

namespace Lw
open PySem PySem.Spec PyProof.Rows L2 PL Tp
section
variable {P : Program} {w : World} {K : PySem.W.Frag} {mg : Str → Option Value} {base : Heap}
structure OLayer where
  rules : RB
  standing : (List (Text × (List Text)))
  gone_names : (List Text)
def lyF (K : PySem.W.Frag) (x : OLayer) : List (Str × Slot) := [("rules", .val (rRB K) x.rules), ("standing", .val (rD (rTL K PL.rC)) x.standing), ("gone_names", .val (rL K PL.rC) x.gone_names)]
abbrev rOLayer (K : PySem.W.Frag) : Rel OLayer := rObj (He.ga K "Layer") (lyF K)
noncomputable def m_OLayer (rulebook_1 : RB) (texts_2 : (List (Text × (List Text)))) (gone_3 : (List Text)) : Rs OLayer :=
 (Rs.ok rulebook_1).bd fun rules_4 =>
 (Rs.ok texts_2).bd fun standing_5 =>
 (Rs.ok (srtC gone_3)).bd fun gone_names_6 =>
 Rs.ok ⟨rules_4, standing_5, gone_names_6⟩
theorem mk_OLayer (T : Tx K mg) : MakeOk P w K mg base "Layer" (He.ga K "Layer") 1 (spI (He.ga K "Layer") (I3 (rRB K) (rD (rTL K PL.rC)) (rL K PL.rC) (lyF K) m_OLayer)) := make_Layer T fun f fd F =>
  fn_i F sc_Layer_init (by rintro ss fs ⟨_, _, _, _, rfl, _, rfl⟩; rfl) (by
    rintro cdv A outer s H E G o dx ss fs hr ⟨rulebook_1, texts_2, gone_3,  z, rfl, hm, rfl⟩
    have nd := sc_Layer_init.nd
    have hc := T.c_Layer
    unfold m_OLayer at hm
    refine gm_run (D := fun z => retI G H o dx (He.ga K "Layer") (lyF K z)) ?_ hm
    refine gm_fldM (r := (rRB K)) 0 hc T.n_Layer_rules (em_ok (r := (rRB K)) (ev_v 1)) (ev_v 0) rfl (by show 0 < 1000; decide) fun rules_4 => ?_
    refine gm_fldM (r := (rD (rTL K PL.rC))) 0 hc T.n_Layer_standing (em_ok (r := (rD (rTL K PL.rC))) (ev_fd (efd_dict T.b_dict (ev_v 2)))) (ev_v 0) rfl (by show 1 < 1000; decide) fun standing_5 => ?_
    refine gm_fldM (r := (rL K PL.rC)) 0 hc T.n_Layer_gone_names (em_ok (r := (rL K PL.rC)) (ev_f (ef_sortedC hr T.b_sorted (ea_cons (ev_v 3) ea_nil)))) (ev_v 0) rfl (by show 2 < 1000; decide) fun gone_names_6 => ?_
    exact gm_endI (fs := lyF K) (⟨rules_4, standing_5, gone_names_6⟩ : OLayer) rfl)

noncomputable def m_Layer_names (self_1 : OLayer) : Rs (List Text) :=
 ((catR (self_1.standing.map (·.1)) self_1.gone_names).bd fun v_2 =>
 Rs.ok (srtC v_2)).bd fun z_3 => Rs.ok z_3
theorem me_Layer_names (T : Tx K mg) : MethOk P w K mg base (He.ga K "Layer") "names" 1 (spF PL.rC (N1 (rOLayer K) m_Layer_names)) := meth_Layer_names T fun f fd F =>
  fn_f F sc_Layer_names (by rintro ss xs ⟨_, rfl, _⟩; rfl) (by
    rintro cdv A outer s H E G ss xs hr ⟨self_1, rfl, hm⟩
    have nd := sc_Layer_names.nd
    unfold m_Layer_names at hm
    refine gm_run (D := fun z => retF G H PL.rC z) ?_ hm
    exact gm_retFM (efm_bd (em_f (efm_cat (r := PL.rC) (ev_f (ef_listD rfl T.b_list (ea_cons (ev_fld T.c_Layer T.n_Layer_standing (ev_v 0) rfl) ea_nil))) (ev_fld T.c_Layer T.n_Layer_gone_names (ev_v 0) rfl))) fun v_2 h2 =>
       efm_ok (ef_sortedC hr T.b_sorted (ea_cons (h2) ea_nil))))

noncomputable def m_Layer_gone (self_1 : OLayer) : Rs (List Text) :=
 Rs.ok self_1.gone_names
theorem me_Layer_gone (T : Tx K mg) : MethOk P w K mg base (He.ga K "Layer") "gone" 1 (spF PL.rC (N1 (rOLayer K) m_Layer_gone)) := meth_Layer_gone T fun f fd F =>
  fn_f F sc_Layer_gone (by rintro ss xs ⟨_, rfl, _⟩; rfl) (by
    rintro cdv A outer s H E G ss xs hr ⟨self_1, rfl, hm⟩
    have nd := sc_Layer_gone.nd
    unfold m_Layer_gone at hm
    refine gm_run (D := fun z => retF G H PL.rC z) ?_ hm
    exact gm_retF (ef_list T.b_list (ea_cons (ev_fld T.c_Layer T.n_Layer_gone_names (ev_v 0) rfl) ea_nil)))

noncomputable def m_Layer_texts (self_1 : OLayer) : Rs (List (Text × (List Text))) :=
 (Rs.ok self_1.standing).bd fun z_2 => Rs.ok z_2
theorem me_Layer_texts (T : Tx K mg) : MethOk P w K mg base (He.ga K "Layer") "texts" 1 (spFD (rTL K PL.rC) (N1 (rOLayer K) m_Layer_texts)) := meth_Layer_texts T fun f fd F =>
  fn_fd F sc_Layer_texts (by rintro ss xs ⟨_, rfl, _⟩; rfl) (by
    rintro cdv A outer s H E G ss xs hr ⟨self_1, rfl, hm⟩
    have nd := sc_Layer_texts.nd
    unfold m_Layer_texts at hm
    refine gm_run (D := fun z => retFD G H (rTL K PL.rC) z) ?_ hm
    exact gm_retFD (efdm_ok (efd_dict T.b_dict (ev_fld T.c_Layer T.n_Layer_standing (ev_v 0) rfl))))

noncomputable def m_poured (lower_1 : OLayer) (upper_2 : OLayer) : Rs OLayer :=
 (m_Layer_texts lower_1).bd fun texts_3 =>
 ((m_Layer_gone lower_1).bd fun v_6 =>
 Rs.ok v_6).bd fun xs_7 =>
 (foldR (S := (List (Text × Bool))) (fun (s8 : (List (Text × Bool))) (x9 : Text) => (Rs.ok true).bd fun v_11 =>
 (Rs.ok x9).bd fun k_12 =>
 (putR s8 k_12 v_11).bd fun gone_10 =>
 Rs.ok gone_10) [] xs_7).bd fun s8 =>
 ((m_Layer_gone upper_2).bd fun v_13 =>
 Rs.ok v_13).bd fun xs_14 =>
 (foldR (S := ((List (Text × Bool)) × (List (Text × (List Text))))) (fun (s15 : ((List (Text × Bool)) × (List (Text × (List Text))))) (x16 : Text) => (Rs.ok x16).bd fun v_18 => (Rs.ok (ddel s15.2 v_18)).bd fun texts_17 =>
 (Rs.ok true).bd fun v_20 =>
 (Rs.ok x16).bd fun k_21 =>
 (putR s15.1 k_21 v_20).bd fun gone_19 =>
 Rs.ok (gone_19, texts_17)) (s8, texts_3) xs_14).bd fun s15 =>
 (m_Layer_texts upper_2).bd fun xs_22 =>
 (foldR (S := ((List (Text × Bool)) × (List (Text × (List Text))))) (fun (s23 : ((List (Text × Bool)) × (List (Text × (List Text))))) (x24 : (Text × (List Text))) => (Rs.ok x24.1).bd fun v_26 => (Rs.ok (ddel s23.1 v_26)).bd fun gone_25 =>
 (Rs.ok x24.2).bd fun v_28 =>
 (Rs.ok x24.1).bd fun k_29 =>
 (putR s23.2 k_29 v_28).bd fun texts_27 =>
 Rs.ok (gone_25, texts_27)) (s15.1, s15.2) xs_22).bd fun s23 =>
 (m_OLayer lower_1.rules s23.2 (s23.1.map (·.1))).bd fun z_31 => Rs.ok z_31
theorem ok_poured (T : Tx K mg) : CallOk P w K mg base "poured" 3 (spG (M2 (rOLayer K) (rOLayer K) (rOLayer K) m_poured)) := call_poured T fun f fd F =>
  fn_d F sc_poured (by rintro ss R ⟨_, _, _, rfl, _, rfl⟩; rfl) (by
    rintro cdv A outer s H E G ss R hr ⟨lower_1, upper_2,  z, rfl, hm, rfl⟩
    have nd := sc_poured.nd
    unfold m_poured at hm
    refine gm_run (D := fun z => retD G H (fun G v => ((rOLayer K)).rd G v z)) ?_ hm
    refine gm_setFD (r := (rTL K PL.rC)) 2 nd (efdm_m1 (me_Layer_texts T) (hr.mono (by decide)) (ev_v 0)) fun texts_3 o_4 => ?_
    refine gm_setD PL.rB 3 nd fun o_5 => ?_
    refine gm_forM (S := (List (Text × Bool))) (fun (s8 : (List (Text × Bool))) => ⟨⟨G, H, []⟩, [.val (rOLayer K) lower_1, .val (rOLayer K) upper_2, .val rRef o_4, .val rRef o_5, .any, .any], [.dic o_5 PL.rB s8, .dic o_4 (rTL K PL.rC) texts_3]⟩) [] rfl PassesOwn.never (eim_bd (em_f (efm_m1 (me_Layer_gone T) (hr.mono (by decide)) (ev_v 0))) fun v_6 h6 =>
       eim_ok (ei_list (h6))) rfl (.same (.same (.same (.same (.any (.any (.nil))))))) rfl (fun B9 x9 s8 => ⟨_, eg_name 4 nd, ?_⟩) (fun s8 => ?_)
    · refine gm_putDM 0 hr (em_ok (r := PL.rB) (ev_bl)) (ev_v 3) (em_ok (r := PL.rC) (ev_v 4)) rfl fun gone_10 => ?_
      exact gm_next gone_10 rfl (.same (.same (.same (.same (.any (.any (.nil))))))) rfl
    refine gm_forM (S := ((List (Text × Bool)) × (List (Text × (List Text))))) (fun (s15 : ((List (Text × Bool)) × (List (Text × (List Text))))) => ⟨⟨G, H, []⟩, [.val (rOLayer K) lower_1, .val (rOLayer K) upper_2, .val rRef o_4, .val rRef o_5, .any, .any], [.dic o_5 PL.rB s15.1, .dic o_4 (rTL K PL.rC) s15.2]⟩) (s8, texts_3) rfl PassesOwn.never (eim_bd (em_f (efm_m1 (me_Layer_gone T) (hr.mono (by decide)) (ev_v 1))) fun v_13 h13 =>
       eim_ok (ei_list (h13))) rfl (.same (.same (.same (.same (.any (.any (.nil))))))) rfl (fun B16 x16 s15 => ⟨_, eg_name 4 nd, ?_⟩) (fun s15 => ?_)
    · refine gm_pop2 2 1 (r := (rTL K PL.rC)) (em_ok (r := PL.rC) (ev_v 4)) rfl rfl fun texts_17 => ?_
      refine gm_putDM 0 hr (em_ok (r := PL.rB) (ev_bl)) (ev_v 3) (em_ok (r := PL.rC) (ev_v 4)) rfl fun gone_19 => ?_
      exact gm_next (gone_19, texts_17) rfl (.same (.same (.same (.same (.any (.any (.nil))))))) rfl
    refine gm_forM (S := ((List (Text × Bool)) × (List (Text × (List Text))))) (fun (s23 : ((List (Text × Bool)) × (List (Text × (List Text))))) => ⟨⟨G, H, []⟩, [.val (rOLayer K) lower_1, .val (rOLayer K) upper_2, .val rRef o_4, .val rRef o_5, .any, .any], [.dic o_5 PL.rB s23.1, .dic o_4 (rTL K PL.rC) s23.2]⟩) (s15.1, s15.2) rfl PassesOwn.never (eim_itemsF (efdm_m1 (me_Layer_texts T) (hr.mono (by decide)) (ev_v 1))) rfl (.same (.same (.same (.same (.any (.any (.nil))))))) rfl (fun B24 x24 s23 => ⟨_, eg_tup2 rfl (eg_name 4 nd) (eg_name 5 nd), ?_⟩) (fun s23 => ?_)
    · refine gm_pop2 3 0 (r := PL.rB) (em_ok (r := PL.rC) (ev_v 4)) rfl rfl fun gone_25 => ?_
      refine gm_putDM 1 hr (em_ok (r := (rTL K PL.rC)) (ev_v 5)) (ev_v 2) (em_ok (r := PL.rC) (ev_v 4)) rfl fun texts_27 => ?_
      exact gm_next (gone_25, texts_27) rfl (.same (.same (.same (.same (.any (.any (.nil))))))) rfl
    refine gm_frzD 3 0 rfl rfl ?_
    refine gm_frzD 2 0 rfl rfl ?_
    exact gm_retM (r := (rOLayer K)) (em_k3 (mk_OLayer T) (hr.mono (by decide)) (ea_cons (ev_fld T.c_Layer T.n_Layer_rules (ev_v 0) rfl) (ea_cons (ev_v 2) (ea_cons (ev_f (ef_listD rfl T.b_list (ea_cons (ev_v 3) ea_nil))) ea_nil)))))

noncomputable def m_lowest (layer_1 : OLayer) : Rs OLayer :=
 ((m_Layer_texts layer_1).bd fun v_2 =>
 m_OLayer layer_1.rules v_2 []).bd fun z_4 => Rs.ok z_4
theorem ok_lowest (T : Tx K mg) : CallOk P w K mg base "lowest" 3 (spG (M1 (rOLayer K) (rOLayer K) m_lowest)) := call_lowest T fun f fd F =>
  fn_d F sc_lowest (by rintro ss R ⟨_, _, rfl, _, rfl⟩; rfl) (by
    rintro cdv A outer s H E G ss R hr ⟨layer_1,  z, rfl, hm, rfl⟩
    have nd := sc_lowest.nd
    unfold m_lowest at hm
    refine gm_run (D := fun z => retD G H (fun G v => ((rOLayer K)).rd G v z)) ?_ hm
    exact gm_retM (r := (rOLayer K)) (em_bd (em_fd (efdm_m1 (me_Layer_texts T) (hr.mono (by decide)) (ev_v 0))) fun v_2 h2 =>
       em_k3 (mk_OLayer T) (hr.mono (by decide)) (ea_cons (ev_fld T.c_Layer T.n_Layer_rules (ev_v 0) rfl) (ea_cons (h2) (ea_cons (ev_f (ef_nil)) ea_nil)))))

noncomputable def m_law_nth (script_1 : (List Int)) (k_2 : Int) : Rs Int :=
 (if decide (k_2 < (script_1.length : Int)) = true then (ixR script_1 k_2).bd fun v_3 =>
 Rs.ok v_3 else Rs.ok (0 : Int)).bd fun z_5 => Rs.ok z_5
theorem ok_law_nth (T : Tx K mg) : CallOk P w K mg base "_law_nth" 1 (spG (M2 (rL K PL.rI) PL.rI PL.rI m_law_nth)) := call_law_nth T fun f fd F =>
  fn_d F sc_law_nth (by rintro ss R ⟨_, _, _, rfl, _, rfl⟩; rfl) (by
    rintro cdv A outer s H E G ss R hr ⟨script_1, k_2,  z, rfl, hm, rfl⟩
    have nd := sc_law_nth.nd
    unfold m_law_nth at hm
    refine gm_run (D := fun z => retD G H (fun G v => (PL.rI).rd G v z)) ?_ hm
    exact gm_retM (r := PL.rI) (em_if (et_c (cm_lt (ev_v 1) (ev_len (K' := K) T.b_len (ea_cons (ev_v 0) ea_nil)))) (em_bd (em_ixL (ev_v 0) (ev_v 1)) fun v_3 h3 =>
       em_ok (h3)) (em_ok (ev_int))))

noncomputable def m_law_tape (cell_1 : Int) (plain_2 : Bool) : Rs (List Int) :=
 ((mulR cell_1 ((48271 : Int) ^ 9)).bd fun v_3 =>
 Rs.ok ((v_3 + ((7 : Int) ^ 60)) % (((10 : Int) ^ 64) - (59 : Int)))).bd fun number_4 =>
 ((mulR cell_1 (if plain_2 = true then 1 else 0)).bd fun v_5 =>
 (mulR number_4 number_4).bd fun v_6 =>
 Rs.ok [v_5, (v_6 % (((10 : Int) ^ 64) + (13 : Int)))]).bd fun z_7 => Rs.ok z_7
theorem ok_law_tape (T : Tx K mg) : CallOk P w K mg base "_law_tape" 1 (spF PL.rI (N2 PL.rI PL.rB m_law_tape)) := call_law_tape T fun f fd F =>
  fn_f F sc_law_tape (by rintro ss xs ⟨_, _, rfl, _⟩; rfl) (by
    rintro cdv A outer s H E G ss xs hr ⟨cell_1, plain_2, rfl, hm⟩
    have nd := sc_law_tape.nd
    unfold m_law_tape at hm
    refine gm_run (D := fun z => retF G H PL.rI z) ?_ hm
    refine gm_setM (r := PL.rI) 2 nd (em_bd (em_mul (ev_v 0) (ev_powK 48271 9)) fun v_3 h3 =>
       em_ok (r := PL.rI) (ev_mod (ev_add (h3) (ev_powK 7 60)) (ev_sub (ev_powK 10 64) (ev_int)) (by decide))) fun number_4 => ?_
    exact gm_retFM (efm_bd (em_mul (ev_v 0) (ev_intB T.b_int (ea_cons (ev_v 1) ea_nil))) fun v_5 h5 =>
       efm_bd (em_mul (ev_v 2) (ev_v 2)) fun v_6 h6 =>
       efm_ok (ef_lst (r := PL.rI) (xs := [v_5, (v_6 % (((10 : Int) ^ 64) + (13 : Int)))]) (ea_cons (h5) (ea_cons (ev_mod (h6) (ev_add (ev_powK 10 64) (ev_int)) (by decide)) ea_nil)) (szl 2))))

noncomputable def m_law_digit (tape_here_1 : (List Int)) (many_2 : Int) : Rs (Int × (List Int)) :=
 ((ixR tape_here_1 (0 : Int)).bd fun v_3 =>
 Rs.ok (if decide (v_3 = (0 : Int)) = true then 1 else 0)).bd fun k_5 =>
 ((ixR tape_here_1 k_5).bd fun v_6 =>
 (modR v_6 many_2).bd fun v_7 =>
 Rs.ok v_7).bd fun digit_here_9 =>
 ((ixR tape_here_1 k_5).bd fun v_10 =>
 (divR v_10 many_2).bd fun v_11 =>
 Rs.ok v_11).bd fun v_14 =>
 (Rs.ok k_5).bd fun k_15 =>
 (setR tape_here_1 k_15 v_14).bd fun tape_here_13 =>
 Rs.ok (digit_here_9, tape_here_13)
theorem ok_law_digit (T : Tx K mg) : CallOk P w K mg base "_law_digit" 1 (spB PL.rI (B2 PL.rI PL.rI m_law_digit)) := call_law_digit T fun f fd F =>
  fn_b F sc_law_digit (by rintro ss xs ys R ⟨_, _, rfl, _, rfl⟩; rfl) (by
    rintro cdv A outer s H E G o ss tape_here_1 ys R hr ⟨many_2, z, rfl, hm, rfl⟩
    have nd := sc_law_digit.nd
    unfold m_law_digit at hm
    refine gm_run (D := fun z => retB G H o PL.rI z.2 (fun G v => (PL.rI).rd G v z.1)) (o := (z, ys)) ?_ hm
    refine gm_setM (r := PL.rI) 2 nd (em_lent 0 0 nol_I rfl rfl (em_bd (em_ixL (ev_v 0) (ev_int)) fun v_3 h3 =>
       em_ok (ev_intB T.b_int (ea_cons (ev_c (cm_eqI (h3) (ev_int))) ea_nil)))) fun k_5 => ?_
    refine gm_setM (r := PL.rI) 3 nd (em_lent 0 0 nol_I rfl rfl (em_bd (em_ixL (ev_v 0) (ev_v 2)) fun v_6 h6 =>
       em_bd (em_mod (h6) (ev_v 1)) fun v_7 h7 =>
       em_ok (h7))) fun digit_here_9 => ?_
    refine gm_setIM 0 0 (em_lent 0 0 nol_I rfl rfl (em_bd (em_ixL (ev_v 0) (ev_v 2)) fun v_10 h10 =>
       em_bd (em_div (h10) (ev_v 1)) fun v_11 h11 =>
       em_ok (h11))) (em_ok (r := PL.rI) (ev_v 2)) rfl rfl fun tape_here_13 => ?_
    exact gm_retB (r := PL.rI) 0 (ev_v 3) rfl)

noncomputable def m_law_name (tape_here_1 : (List Int)) (old_2 : (List Text)) (most_3 : Int) : Rs (Text × (List Int)) :=
 (((Rs.ok (decide (most_3 ≤ (old_2.length : Int)))).bd fun x_4 => Rs.ok (x_4, tape_here_1)).bd fun q_5 => if q_5.1 = true then Rs.ok (true, q_5.2) else ((Rs.ok (!decide (old_2 = []))).bd fun x_6 => Rs.ok (x_6, q_5.2)).bd fun q_7 => if q_7.1 = true then (m_law_digit q_7.2 (3 : Int)).bd fun q_8 => ((Rs.ok (0 : Int)).bd fun x_10 => Rs.ok (x_10, q_8.2)).bd fun y_9 => Rs.ok (decide (y_9.1 < q_8.1), y_9.2) else Rs.ok (false, q_7.2)).bd fun q_11 =>
 if q_11.1 = true then
 (((Rs.ok old_2).bd fun x_12 => Rs.ok (x_12, q_11.2)).bd fun q_13 => (m_law_digit q_13.2 (old_2.length : Int)).bd fun y_14 => (ixR q_13.1 y_14.1).bd fun z_15 => Rs.ok (z_15, y_14.2)).bd fun q_16 => Rs.ok (q_16.1, q_16.2)
 else (Rs.ok (tx "")).bd fun name_here_17 =>
 (((((Rs.ok (1 : Int)).bd fun x_18 => Rs.ok (x_18, q_11.2)).bd fun q_19 => (m_law_digit q_19.2 (8 : Int)).bd fun y_20 => (Rs.ok (q_19.1 + y_20.1)).bd fun z_21 => Rs.ok (z_21, y_20.2)).bd fun q_22 => (Rs.ok ((), q_22.2)).bd fun y_23 => Rs.ok ((q_22.1, y_23.1), y_23.2)).bd fun y_24 => (rngR y_24.1.1).bd fun xs_25 => Rs.ok (xs_25, y_24.2)).bd fun y_26 => (foldR (S := (Text × (List Int))) (fun (s27 : (Text × (List Int))) (x28 : Int) => (((Rs.ok s27.1).bd fun x_30 => Rs.ok (x_30, s27.2)).bd fun q_31 => (((Rs.ok (tx "abcdefghijklmnopqrstuvwxyz")).bd fun x_34 => Rs.ok (x_34, q_31.2)).bd fun q_35 => (m_law_digit q_35.2 (26 : Int)).bd fun y_36 => (sgnR q_35.1 y_36.1).bd fun z_37 => Rs.ok (z_37, y_36.2)).bd fun y_32 => (catR q_31.1 y_32.1).bd fun z_33 => Rs.ok (z_33, y_32.2)).bd fun q_29 =>
 Rs.ok (q_29.1, q_29.2)) (name_here_17, y_26.2) y_26.1).bd fun s27 =>
 Rs.ok (s27.1, s27.2)
theorem ok_law_name (T : Tx K mg) : CallOk P w K mg base "_law_name" 2 (spB PL.rI (B3 (rL K PL.rC) PL.rI PL.rC m_law_name)) := call_law_name T fun f fd F =>
  fn_b F sc_law_name (by rintro ss xs ys R ⟨_, _, _, rfl, _, rfl⟩; rfl) (by
    rintro cdv A outer s H E G o ss tape_here_1 ys R hr ⟨old_2, most_3, z, rfl, hm, rfl⟩
    have nd := sc_law_name.nd
    unfold m_law_name at hm
    refine gm_run (D := fun z => retB G H o PL.rI z.2 (fun G v => (PL.rC).rd G v z.1)) (o := (z, ys)) ?_ hm
    refine gm_ifS (Zs := (fun u : List Int => ⟨⟨G, hid H o, []⟩, [.val rRef o, .val (rL K PL.rC) old_2, .val PL.rI most_3, .any, .any], [.lst o PL.rI u]⟩)) (ets_w (ews_or (ets_m (Zs := (fun u : List Int => ⟨⟨G, hid H o, []⟩, [.val rRef o, .val (rL K PL.rC) old_2, .val PL.rI most_3, .any, .any], [.lst o PL.rI u]⟩)) tape_here_1 (etm_ok (et_c (cm_ge (ev_len (K' := K) T.b_len (ea_cons (ev_v 1) ea_nil)) (ev_v 2))))) (fun q_5 => ews_or1 (ets_w (ews_and (ets_m (Zs := (fun u : List Int => ⟨⟨G, hid H o, []⟩, [.val rRef o, .val (rL K PL.rC) old_2, .val PL.rI most_3, .any, .any], [.lst o PL.rI u]⟩)) q_5.2 (etm_ok (et_c (cm_neD (dL dC) hr (ev_v 1) (ev_f (ef_nil)))))) (fun q_7 => ews_and1 (ets_c (cs_gt (es_b2 (Zl := (fun u : List Int => ⟨⟨G, hid H o, []⟩, [.val rRef o, .val (rL K PL.rC) old_2, .val PL.rI most_3, .any, .any], [.lst o PL.rI u]⟩)) 0 0 q_7.2 (ok_law_digit T) (hr.mono (by decide)) (ea_cons (ev_int) ea_nil) rfl rfl) (fun q_8 => es_m (Zs := (fun u : List Int => ⟨⟨G, hid H o, []⟩, [.val rRef o, .val (rL K PL.rC) old_2, .val PL.rI most_3, .any, .any], [.lst o PL.rI u]⟩)) q_8.2 (em_ok (r := PL.rI) (ev_int))))))))))) (fun q_11 => ?_) (fun q_11 => ?_)
    · exact gm_retBS (Zs := (fun u : List Int => ⟨⟨G, hid H o, []⟩, [.val rRef o, .val (rL K PL.rC) old_2, .val PL.rI most_3, .any, .any], [.lst o PL.rI u]⟩)) (cont := fun t => t) 0 (es_ixL (es_m (Zs := (fun u : List Int => ⟨⟨G, hid H o, []⟩, [.val rRef o, .val (rL K PL.rC) old_2, .val PL.rI most_3, .any, .any], [.lst o PL.rI u]⟩)) q_11.2 (em_ok (r := (rL K PL.rC)) (ev_v 1))) (fun q_13 => es_b2 (Zl := (fun u : List Int => ⟨⟨G, hid H o, []⟩, [.val rRef o, .val (rL K PL.rC) old_2, .val PL.rI most_3, .any, .any], [.lst o PL.rI u]⟩)) 0 0 q_13.2 (ok_law_digit T) (hr.mono (by decide)) (ea_cons (ev_len (K' := K) T.b_len (ea_cons (ev_v 1) ea_nil)) ea_nil) rfl rfl)) (fun _ => rfl)
    · refine gm_on ?_
      refine gm_setM (r := PL.rC) 3 nd (em_ok (r := PL.rC) (ev_txt)) fun name_here_17 => ?_
      refine gm_forS (Zs := (fun u : List Int => ⟨⟨G, hid H o, []⟩, [.val rRef o, .val (rL K PL.rC) old_2, .val PL.rI most_3, .val PL.rC name_here_17, .any], [.lst o PL.rI u]⟩)) (T := (Text × (List Int))) (fun (s27 : (Text × (List Int))) => ⟨⟨G, hid H o, []⟩, [.val rRef o, .val (rL K PL.rC) old_2, .val PL.rI most_3, .val PL.rC s27.1, .any], [.lst o PL.rI s27.2]⟩) (fun y_26 => (name_here_17, y_26.2)) rfl PassesOwn.never (eis_range T.b_range (eas_cons (r := PL.rI) (es_add (es_m (Zs := (fun u : List Int => ⟨⟨G, hid H o, []⟩, [.val rRef o, .val (rL K PL.rC) old_2, .val PL.rI most_3, .val PL.rC name_here_17, .any], [.lst o PL.rI u]⟩)) q_11.2 (em_ok (r := PL.rI) (ev_int))) (fun q_19 => es_b2 (Zl := (fun u : List Int => ⟨⟨G, hid H o, []⟩, [.val rRef o, .val (rL K PL.rC) old_2, .val PL.rI most_3, .val PL.rC name_here_17, .any], [.lst o PL.rI u]⟩)) 0 0 q_19.2 (ok_law_digit T) (hr.mono (by decide)) (ea_cons (ev_int) ea_nil) rfl rfl)) (fun q_22 => eas_nil (Zs := (fun u : List Int => ⟨⟨G, hid H o, []⟩, [.val rRef o, .val (rL K PL.rC) old_2, .val PL.rI most_3, .val PL.rC name_here_17, .any], [.lst o PL.rI u]⟩)) q_22.2))) (fun _ => rfl) (fun _ => .same (.same (.same (.same (.any (.nil)))))) (fun _ => rfl) (fun B28 x28 s27 => ⟨_, eg_name 4 nd, ?_⟩) (fun y_26 s27 => ?_)
      · refine gm_setS (Zs := (fun u : List Int => ⟨⟨G, hid H o, [B28]⟩, [.val rRef o, .val (rL K PL.rC) old_2, .val PL.rI most_3, .val PL.rC s27.1, .val PL.rI x28], [.lst o PL.rI u]⟩)) (r := PL.rC) 3 nd (es_cat (es_m (Zs := (fun u : List Int => ⟨⟨G, hid H o, [B28]⟩, [.val rRef o, .val (rL K PL.rC) old_2, .val PL.rI most_3, .val PL.rC s27.1, .val PL.rI x28], [.lst o PL.rI u]⟩)) s27.2 (em_ok (r := PL.rC) (ev_v 3))) (fun q_31 => es_ixC (es_m (Zs := (fun u : List Int => ⟨⟨G, hid H o, [B28]⟩, [.val rRef o, .val (rL K PL.rC) old_2, .val PL.rI most_3, .val PL.rC s27.1, .val PL.rI x28], [.lst o PL.rI u]⟩)) q_31.2 (em_ok (r := PL.rC) (ev_txt))) (fun q_35 => es_b2 (Zl := (fun u : List Int => ⟨⟨G, hid H o, [B28]⟩, [.val rRef o, .val (rL K PL.rC) old_2, .val PL.rI most_3, .val PL.rC s27.1, .val PL.rI x28], [.lst o PL.rI u]⟩)) 0 0 q_35.2 (ok_law_digit T) (hr.mono (by decide)) (ea_cons (ev_int) ea_nil) rfl rfl))) fun q_29 => ?_
        exact gm_next (q_29.1, q_29.2) rfl (.same (.same (.same (.same (.any (.nil)))))) rfl
      exact gm_retB (r := PL.rC) 0 (ev_v 3) rfl)

noncomputable def m_law_text (tape_here_1 : (List Int)) (plain_2 : Bool) : Rs (Text × (List Int)) :=
 (Rs.ok [tx "cat", tx "Cats", tx "the", tx "running", tx "a1", tx "flies", tx "of", tx "s", tx "singing", tx "x", tx "bus", tx "catS", tx "the7", tx "ing"]).bd fun some_3 =>
 (Rs.ok (tx " !\"#$&'()*+,-./0123456789:;<=>?@ABCDEFGHIJKLMNOPQRSTUVWXYZ[\\]^_`abcdefghijklmnopqrstuvwxyz{|}~")).bd fun signs_4 =>
 (m_law_digit tape_here_1 (4 : Int)).bd fun q_5 =>
 if (decide (q_5.1 = (3 : Int))) = true then
 Rs.ok (tx "", q_5.2)
 else if (decide (q_5.1 = (2 : Int))) = true then
 ((ixR [(30 : Int), (401 : Int)] (if plain_2 = true then 1 else 0)).bd fun v_7 =>
 m_law_digit q_5.2 v_7).bd fun q_6 =>
 (((Rs.ok (tx "")).bd fun x_8 => Rs.ok (x_8, q_6.2)).bd fun q_9 => (((rngR q_6.1).bd fun x_12 => Rs.ok (x_12, q_9.2)).bd fun y13 => mapS (fun (t13 : List Int) (x13 : Int) => ((Rs.ok signs_4).bd fun x_14 => Rs.ok (x_14, t13)).bd fun q_15 => (m_law_digit q_15.2 (94 : Int)).bd fun y_16 => (sgnR q_15.1 y_16.1).bd fun z_17 => Rs.ok (z_17, y_16.2)) y13.2 y13.1).bd fun y_10 => (joinR q_9.1 y_10.1).bd fun z_11 => Rs.ok (z_11, y_10.2)).bd fun q_18 => Rs.ok (q_18.1, q_18.2)
 else (Rs.ok (tx "")).bd fun text_here_19 =>
 (((m_law_digit q_5.2 (7 : Int)).bd fun q_20 => (Rs.ok ((), q_20.2)).bd fun y_21 => Rs.ok ((q_20.1, y_21.1), y_21.2)).bd fun y_22 => (rngR y_22.1.1).bd fun xs_23 => Rs.ok (xs_23, y_22.2)).bd fun y_24 => (foldR (S := (Text × (List Int))) (fun (s25 : (Text × (List Int))) (x26 : Int) => ((((Rs.ok s25.1).bd fun x_28 => Rs.ok (x_28, s25.2)).bd fun q_29 => (((Rs.ok some_3).bd fun x_32 => Rs.ok (x_32, q_29.2)).bd fun q_33 => (m_law_digit q_33.2 (14 : Int)).bd fun y_34 => (ixR q_33.1 y_34.1).bd fun z_35 => Rs.ok (z_35, y_34.2)).bd fun y_30 => (catR q_29.1 y_30.1).bd fun z_31 => Rs.ok (z_31, y_30.2)).bd fun q_36 => (((Rs.ok [tx " ", tx "-", tx ", ", tx "."]).bd fun x_39 => Rs.ok (x_39, q_36.2)).bd fun q_40 => (m_law_digit q_40.2 (4 : Int)).bd fun y_41 => (ixR q_40.1 y_41.1).bd fun z_42 => Rs.ok (z_42, y_41.2)).bd fun y_37 => (catR q_36.1 y_37.1).bd fun z_38 => Rs.ok (z_38, y_37.2)).bd fun q_27 =>
 Rs.ok (q_27.1, q_27.2)) (text_here_19, y_24.2) y_24.1).bd fun s25 =>
 Rs.ok (s25.1, s25.2)
theorem ok_law_text (T : Tx K mg) : CallOk P w K mg base "_law_text" 2 (spB PL.rI (B2 PL.rB PL.rC m_law_text)) := call_law_text T fun f fd F =>
  fn_b F sc_law_text (by rintro ss xs ys R ⟨_, _, rfl, _, rfl⟩; rfl) (by
    rintro cdv A outer s H E G o ss tape_here_1 ys R hr ⟨plain_2, z, rfl, hm, rfl⟩
    have nd := sc_law_text.nd
    unfold m_law_text at hm
    refine gm_run (D := fun z => retB G H o PL.rI z.2 (fun G v => (PL.rC).rd G v z.1)) (o := (z, ys)) ?_ hm
    refine gm_setM (r := (rL K PL.rC)) 2 nd (em_ok (r := (rL K PL.rC)) (ev_f (ef_txts))) fun some_3 => ?_
    refine gm_setM (r := PL.rC) 3 nd (em_ok (r := PL.rC) (ev_txt)) fun signs_4 => ?_
    refine gm_setS (Zs := (fun u : List Int => ⟨⟨G, hid H o, []⟩, [.val rRef o, .val PL.rB plain_2, .val (rL K PL.rC) some_3, .val PL.rC signs_4, .any, .any, .any, .any], [.lst o PL.rI u]⟩)) (r := PL.rI) 4 nd (es_b2 (Zl := (fun u : List Int => ⟨⟨G, hid H o, []⟩, [.val rRef o, .val PL.rB plain_2, .val (rL K PL.rC) some_3, .val PL.rC signs_4, .any, .any, .any, .any], [.lst o PL.rI u]⟩)) 0 0 tape_here_1 (ok_law_digit T) (hr.mono (by decide)) (ea_cons (ev_int) ea_nil) rfl rfl) fun q_5 => ?_
    refine gm_if (et_c (cm_eqI (ev_v 4) (ev_int))) ?_ ?_
    · exact gm_retB (r := PL.rC) 0 (ev_txt) rfl
    · refine gm_on ?_
      refine gm_if (et_c (cm_eqI (ev_v 4) (ev_int))) ?_ ?_
      · refine gm_setS (Zs := (fun u : List Int => ⟨⟨G, hid H o, []⟩, [.val rRef o, .val PL.rB plain_2, .val (rL K PL.rC) some_3, .val PL.rC signs_4, .val PL.rI q_5.1, .any, .any, .any], [.lst o PL.rI u]⟩)) (r := PL.rI) 5 nd (es_bd (em_ixL (ev_f (ef_ints)) (ev_intB T.b_int (ea_cons (ev_v 1) ea_nil))) fun v_7 h7 =>
           es_b2 (Zl := (fun u : List Int => ⟨⟨G, hid H o, []⟩, [.val rRef o, .val PL.rB plain_2, .val (rL K PL.rC) some_3, .val PL.rC signs_4, .val PL.rI q_5.1, .any, .any, .any], [.lst o PL.rI u]⟩)) 0 0 q_5.2 (ok_law_digit T) (hr.mono (by decide)) (ea_cons (h7) ea_nil) rfl rfl) fun q_6 => ?_
        exact gm_retBS (Zs := (fun u : List Int => ⟨⟨G, hid H o, []⟩, [.val rRef o, .val PL.rB plain_2, .val (rL K PL.rC) some_3, .val PL.rC signs_4, .val PL.rI q_5.1, .val PL.rI q_6.1, .any, .any], [.lst o PL.rI u]⟩)) (cont := fun t => t) 0 (es_join (es_m (Zs := (fun u : List Int => ⟨⟨G, hid H o, []⟩, [.val rRef o, .val PL.rB plain_2, .val (rL K PL.rC) some_3, .val PL.rC signs_4, .val PL.rI q_5.1, .val PL.rI q_6.1, .any, .any], [.lst o PL.rI u]⟩)) q_6.2 (em_ok (r := PL.rC) (ev_txt))) (fun q_9 => es_f (r := PL.rC) (fun _ => rfl) (efs_lc (s := PL.rC) (own := [("_law_k", 7)]) rfl nd (lcs_1 (Zs := (fun u : List Int => ⟨⟨G, hid H o, []⟩, [.val rRef o, .val PL.rB plain_2, .val (rL K PL.rC) some_3, .val PL.rC signs_4, .val PL.rI q_5.1, .val PL.rI q_6.1, .any, .any], [.lst o PL.rI u]⟩)) (eis_m (Zs := (fun u : List Int => ⟨⟨G, hid H o, []⟩, [.val rRef o, .val PL.rB plain_2, .val (rL K PL.rC) some_3, .val PL.rC signs_4, .val PL.rI q_5.1, .val PL.rI q_6.1, .any, .any], [.lst o PL.rI u]⟩)) q_9.2 (eim_range T.b_range (ea_cons (ev_v 5) ea_nil))) (fun _ => rfl) (fun _ _ => rfl) (fun B13 x13 t13 l13 ac13 => ⟨_, (fun u : List Int => ⟨⟨G, hid H o, [B13]⟩, [.val rRef o, .val PL.rB plain_2, .val (rL K PL.rC) some_3, .val PL.rC signs_4, .val PL.rI q_5.1, .val PL.rI q_6.1, .any, .val PL.rI x13], [.lst o PL.rI u, .lst l13 PL.rC ac13]⟩), fun _ _ _ _ _ => egb_name 7 nd, fun _ _ _ _ _ => es_ixC (es_m (Zs := (fun u : List Int => ⟨⟨G, hid H o, [B13]⟩, [.val rRef o, .val PL.rB plain_2, .val (rL K PL.rC) some_3, .val PL.rC signs_4, .val PL.rI q_5.1, .val PL.rI q_6.1, .any, .val PL.rI x13], [.lst o PL.rI u, .lst l13 PL.rC ac13]⟩)) t13 (em_ok (r := PL.rC) (ev_v 3))) (fun q_15 => es_b2 (Zl := (fun u : List Int => ⟨⟨G, hid H o, [B13]⟩, [.val rRef o, .val PL.rB plain_2, .val (rL K PL.rC) some_3, .val PL.rC signs_4, .val PL.rI q_5.1, .val PL.rI q_6.1, .any, .val PL.rI x13], [.lst o PL.rI u, .lst l13 PL.rC ac13]⟩)) 0 0 q_15.2 (ok_law_digit T) (hr.mono (by decide)) (ea_cons (ev_int) ea_nil) rfl rfl), fun _ => ⟨rfl, rfl⟩⟩))))) (fun _ => rfl)
      · refine gm_on ?_
        refine gm_setM (r := PL.rC) 6 nd (em_ok (r := PL.rC) (ev_txt)) fun text_here_19 => ?_
        refine gm_forS (Zs := (fun u : List Int => ⟨⟨G, hid H o, []⟩, [.val rRef o, .val PL.rB plain_2, .val (rL K PL.rC) some_3, .val PL.rC signs_4, .val PL.rI q_5.1, .any, .val PL.rC text_here_19, .any], [.lst o PL.rI u]⟩)) (T := (Text × (List Int))) (fun (s25 : (Text × (List Int))) => ⟨⟨G, hid H o, []⟩, [.val rRef o, .val PL.rB plain_2, .val (rL K PL.rC) some_3, .val PL.rC signs_4, .val PL.rI q_5.1, .any, .val PL.rC s25.1, .any], [.lst o PL.rI s25.2]⟩) (fun y_24 => (text_here_19, y_24.2)) rfl PassesOwn.never (eis_range T.b_range (eas_cons (r := PL.rI) (es_b2 (Zl := (fun u : List Int => ⟨⟨G, hid H o, []⟩, [.val rRef o, .val PL.rB plain_2, .val (rL K PL.rC) some_3, .val PL.rC signs_4, .val PL.rI q_5.1, .any, .val PL.rC text_here_19, .any], [.lst o PL.rI u]⟩)) 0 0 q_5.2 (ok_law_digit T) (hr.mono (by decide)) (ea_cons (ev_int) ea_nil) rfl rfl) (fun q_20 => eas_nil (Zs := (fun u : List Int => ⟨⟨G, hid H o, []⟩, [.val rRef o, .val PL.rB plain_2, .val (rL K PL.rC) some_3, .val PL.rC signs_4, .val PL.rI q_5.1, .any, .val PL.rC text_here_19, .any], [.lst o PL.rI u]⟩)) q_20.2))) (fun _ => rfl) (fun _ => .same (.same (.same (.same (.same (.any (.same (.any (.nil))))))))) (fun _ => rfl) (fun B26 x26 s25 => ⟨_, eg_name 7 nd, ?_⟩) (fun y_24 s25 => ?_)
        · refine gm_setS (Zs := (fun u : List Int => ⟨⟨G, hid H o, [B26]⟩, [.val rRef o, .val PL.rB plain_2, .val (rL K PL.rC) some_3, .val PL.rC signs_4, .val PL.rI q_5.1, .any, .val PL.rC s25.1, .val PL.rI x26], [.lst o PL.rI u]⟩)) (r := PL.rC) 6 nd (es_cat (es_cat (es_m (Zs := (fun u : List Int => ⟨⟨G, hid H o, [B26]⟩, [.val rRef o, .val PL.rB plain_2, .val (rL K PL.rC) some_3, .val PL.rC signs_4, .val PL.rI q_5.1, .any, .val PL.rC s25.1, .val PL.rI x26], [.lst o PL.rI u]⟩)) s25.2 (em_ok (r := PL.rC) (ev_v 6))) (fun q_29 => es_ixL (es_m (Zs := (fun u : List Int => ⟨⟨G, hid H o, [B26]⟩, [.val rRef o, .val PL.rB plain_2, .val (rL K PL.rC) some_3, .val PL.rC signs_4, .val PL.rI q_5.1, .any, .val PL.rC s25.1, .val PL.rI x26], [.lst o PL.rI u]⟩)) q_29.2 (em_ok (r := (rL K PL.rC)) (ev_v 2))) (fun q_33 => es_b2 (Zl := (fun u : List Int => ⟨⟨G, hid H o, [B26]⟩, [.val rRef o, .val PL.rB plain_2, .val (rL K PL.rC) some_3, .val PL.rC signs_4, .val PL.rI q_5.1, .any, .val PL.rC s25.1, .val PL.rI x26], [.lst o PL.rI u]⟩)) 0 0 q_33.2 (ok_law_digit T) (hr.mono (by decide)) (ea_cons (ev_int) ea_nil) rfl rfl))) (fun q_36 => es_ixL (es_m (Zs := (fun u : List Int => ⟨⟨G, hid H o, [B26]⟩, [.val rRef o, .val PL.rB plain_2, .val (rL K PL.rC) some_3, .val PL.rC signs_4, .val PL.rI q_5.1, .any, .val PL.rC s25.1, .val PL.rI x26], [.lst o PL.rI u]⟩)) q_36.2 (em_ok (r := (rL K PL.rC)) (ev_f (ef_txts)))) (fun q_40 => es_b2 (Zl := (fun u : List Int => ⟨⟨G, hid H o, [B26]⟩, [.val rRef o, .val PL.rB plain_2, .val (rL K PL.rC) some_3, .val PL.rC signs_4, .val PL.rI q_5.1, .any, .val PL.rC s25.1, .val PL.rI x26], [.lst o PL.rI u]⟩)) 0 0 q_40.2 (ok_law_digit T) (hr.mono (by decide)) (ea_cons (ev_int) ea_nil) rfl rfl))) fun q_27 => ?_
          exact gm_next (q_27.1, q_27.2) rfl (.same (.same (.same (.same (.same (.any (.same (.any (.nil))))))))) rfl
        exact gm_retB (r := PL.rC) 0 (ev_v 6) rfl)

noncomputable def m_law_parts (tape_here_1 : (List Int)) (plain_2 : Bool) : Rs ((List Text) × (List Int)) :=
 (m_law_text tape_here_1 plain_2).bd fun q_3 =>
 (m_law_text q_3.2 plain_2).bd fun q_4 =>
 ((((Rs.ok q_3.1).bd fun x_5 => Rs.ok (x_5, q_4.2)).bd fun q_6 => ((Rs.ok q_4.1).bd fun x_7 => Rs.ok (x_7, q_6.2)).bd fun q_8 => (m_law_text q_8.2 plain_2).bd fun q_9 => Rs.ok ((q_6.1, q_8.1, q_9.1), q_9.2)).bd fun q_10 => Rs.ok ([q_10.1.1, q_10.1.2.1, q_10.1.2.2], q_10.2)).bd fun q_11 => Rs.ok (q_11.1, q_11.2)
theorem ok_law_parts (T : Tx K mg) : CallOk P w K mg base "_law_parts" 3 (spB PL.rI (B2 PL.rB (rTL K PL.rC) m_law_parts)) := call_law_parts T fun f fd F =>
  fn_b F sc_law_parts (by rintro ss xs ys R ⟨_, _, rfl, _, rfl⟩; rfl) (by
    rintro cdv A outer s H E G o ss tape_here_1 ys R hr ⟨plain_2, z, rfl, hm, rfl⟩
    have nd := sc_law_parts.nd
    unfold m_law_parts at hm
    refine gm_run (D := fun z => retB G H o PL.rI z.2 (fun G v => ((rTL K PL.rC)).rd G v z.1)) (o := (z, ys)) ?_ hm
    refine gm_setS (Zs := (fun u : List Int => ⟨⟨G, hid H o, []⟩, [.val rRef o, .val PL.rB plain_2, .any, .any], [.lst o PL.rI u]⟩)) (r := PL.rC) 2 nd (es_b2 (Zl := (fun u : List Int => ⟨⟨G, hid H o, []⟩, [.val rRef o, .val PL.rB plain_2, .any, .any], [.lst o PL.rI u]⟩)) 0 0 tape_here_1 (ok_law_text T) (hr.mono (by decide)) (ea_cons (ev_v 1) ea_nil) rfl rfl) fun q_3 => ?_
    refine gm_setS (Zs := (fun u : List Int => ⟨⟨G, hid H o, []⟩, [.val rRef o, .val PL.rB plain_2, .val PL.rC q_3.1, .any], [.lst o PL.rI u]⟩)) (r := PL.rC) 3 nd (es_b2 (Zl := (fun u : List Int => ⟨⟨G, hid H o, []⟩, [.val rRef o, .val PL.rB plain_2, .val PL.rC q_3.1, .any], [.lst o PL.rI u]⟩)) 0 0 q_3.2 (ok_law_text T) (hr.mono (by decide)) (ea_cons (ev_v 1) ea_nil) rfl rfl) fun q_4 => ?_
    exact gm_retBS (Zs := (fun u : List Int => ⟨⟨G, hid H o, []⟩, [.val rRef o, .val PL.rB plain_2, .val PL.rC q_3.1, .val PL.rC q_4.1], [.lst o PL.rI u]⟩)) (cont := fun t => t) 0 (es_tl3 (es_T3 (r := PL.rC) (s := PL.rC) (t := PL.rC) (es_m (Zs := (fun u : List Int => ⟨⟨G, hid H o, []⟩, [.val rRef o, .val PL.rB plain_2, .val PL.rC q_3.1, .val PL.rC q_4.1], [.lst o PL.rI u]⟩)) q_4.2 (em_ok (r := PL.rC) (ev_v 2))) (fun q_6 => es_m (Zs := (fun u : List Int => ⟨⟨G, hid H o, []⟩, [.val rRef o, .val PL.rB plain_2, .val PL.rC q_3.1, .val PL.rC q_4.1], [.lst o PL.rI u]⟩)) q_6.2 (em_ok (r := PL.rC) (ev_v 3))) (fun q_6 q_8 => es_b2 (Zl := (fun u : List Int => ⟨⟨G, hid H o, []⟩, [.val rRef o, .val PL.rB plain_2, .val PL.rC q_3.1, .val PL.rC q_4.1], [.lst o PL.rI u]⟩)) 0 0 q_8.2 (ok_law_text T) (hr.mono (by decide)) (ea_cons (ev_v 1) ea_nil) rfl rfl))) (fun _ => rfl))
end
end Lw

namespace Lw
open PySem PySem.Spec PyProof.Rows L2 PL Tp
/-! ### a layer of a dict and a list that stay the caller's -/
section
variable {P : Program} {w : World} {K : PySem.W.Frag} {mg : Str → Option Value} {base : Heap}
def PrLy (K : PySem.W.Frag) (G H0 : Hp) (ss : List Slot) (fs : List (Str × Slot)) : Prop := ∃ (rb : RB) (l1 : Addr) (us1 : List (Key × V)) (texts : List (Text × List Text)) (l2 : Addr) (us2 : List V) (gone : List Text) (z : OLayer), ss = [.val (rRB K) rb, .val rRef l1, .val rRef l2] ∧ m_OLayer rb texts gone = .ok z ∧ fs = lyF K z ∧
  (H0 l1 = some (.dK us1) ∧ G l1 = none ∧ Paired (ent (rTL K PL.rC) G) us1 texts ∧ texts.length ≤ sizeLine ∧ (texts.map (·.1)).Nodup) ∧ H0 l2 = some (.lst us2) ∧ G l2 = none ∧ Paired (PL.rC.rd G) us2 gone ∧ gone.length ≤ sizeLine
theorem mk_OLayerF (T : Tx K mg) : MakeOk P w K mg base "Layer" (He.ga K "Layer") 1 (spIH (He.ga K "Layer") (PrLy K)) := make_Layer T fun f fd F =>
  fn_iH F sc_Layer_init (by rintro G H ss fs ⟨_, _, _, _, _, _, _, _, rfl, _⟩; rfl) (by
    rintro cdv A outer s H E G o dx ss fs hr ⟨rb, l1, us1, texts, l2, us2, gone, z, rfl, hm, rfl, ⟨a1, a2, a3, a4, a5⟩, b1, b2, b3, b4⟩
    have nd := sc_Layer_init.nd
    have hc := T.c_Layer
    unfold m_OLayer at hm
    refine gm_run (D := fun z => retI G H o dx (He.ga K "Layer") (lyF K z)) ?_ hm
    refine gm_fldM (r := (rRB K)) 0 hc T.n_Layer_rules (em_ok (r := (rRB K)) (ev_v 1)) (ev_v 0) rfl (by show 0 < 1000; decide) fun rules_4 => ?_
    refine gm_fldM (r := (rD (rTL K PL.rC))) 0 hc T.n_Layer_standing (em_ok (r := (rD (rTL K PL.rC))) (ev_fd (efd_lentF 2 (us := us1) (kvs := texts) (r := rTL K PL.rC) ⟨a1, a2, a3, a4, a5⟩ (nod_TL nod_C) rfl (efd_dict T.b_dict (ev_v 2))))) (ev_v 0) rfl (by show 1 < 1000; decide) fun standing_5 => ?_
    refine gm_fldM (r := (rL K PL.rC)) 0 hc T.n_Layer_gone_names (em_ok (r := (rL K PL.rC)) (ev_f (ef_lentFL 3 (us := us2) (xs := gone) (r := PL.rC) ⟨b1, b2, b3, b4⟩ nol_C rfl (ef_sortedC hr T.b_sorted (ea_cons (ev_v 3) ea_nil))))) (ev_v 0) rfl (by show 2 < 1000; decide) fun gone_names_6 => ?_
    exact gm_endI (fs := lyF K) (⟨rules_4, standing_5, gone_names_6⟩ : OLayer) rfl)
theorem em_kLyF {X : Cx} {Z : PL.Ctx} {k : Nat} {e1 e2 e3 : Expr} {p pos : Pos} {rb : RB} {l1 l2 : Addr} {texts : List (Text × List Text)} {gone : List Text} (j1 j2 : Nat) (M : MakeOk X.prog X.w X.K X.mg X.base "Layer" (He.ga X.K "Layer") k (spIH (He.ga X.K "Layer") (PrLy X.K))) (hr : Room (k + 1) X.A) (h1 : EvE X e1 Z (rRB X.K) rb) (h2 : EvE X e2 Z rRef l1) (h3 : EvE X e3 Z rRef l2) (hj1 : Z.ce[j1]? = some (.dic l1 (rTL X.K PL.rC) texts)) (hj2 : Z.ce[j2]? = some (.lst l2 PL.rC gone))
    (hg : Gl X "Layer" := by rfl) (he : starEach [e1, e2, e3] X.env = (false, eval e1 X.env) :: starEach [e2, e3] X.env := by rfl) (he2 : starEach [e2, e3] X.env = (false, eval e2 X.env) :: starEach [e3] X.env := by rfl) (he3 : starEach [e3] X.env = (false, eval e3 X.env) :: starEach [] X.env := by rfl) (hpl : (backTo pos (starEach [e2, e3] X.env)).any (·.1) = false := by rfl) :
    EvM X (.Call (.Name "Layer" p) [e1, e2, e3] [] pos) Z (rObj (He.ga X.K "Layer") (lyF X.K)) (m_OLayer rb texts gone) := fun z q =>
  ev_makeH M hr (ea_cons h1 (ea_cons h2 (ea_cons h3 ea_nil he3) he2) he) (fun G H σ E G' H' s1 s2 n => by
    obtain ⟨c0, cG, u, cH, us, rfl, cP, cL, cN⟩ := E.ce _ (List.mem_of_getElem? hj1)
    obtain ⟨d0, dG, vs, dH, dP, dL⟩ := Cell.ok_lst (E.ce _ (List.mem_of_getElem? hj2))
    exact ⟨rb, l1, us, texts, l2, vs, gone, z, rfl, q, rfl, ⟨s2 _ _ cH, n l1 (by show H l1 ≠ none; rw [show H l1 = some _ from cH]; exact fun z => by cases z) cG, pmono (fun _ _ g => ⟨g.1, (rTL X.K PL.rC).mono s1 g.2.1, g.2.2⟩) cP, cL, cN⟩, s2 _ _ dH, n l2 (by rw [dH]; exact fun z => by cases z) dG, pmono (fun _ _ g => PL.rC.mono s1 g) dP, dL⟩) hg (by decide) he hpl
end
end Lw

namespace Lw
open PySem PySem.Spec PyProof.Rows L2 PL Tp
section
variable {P : Program} {w : World} {K : PySem.W.Frag} {mg : Str → Option Value} {base : Heap}
noncomputable def m_law_entries (cells_1 : (List Int)) (plain_2 : Bool) (old_3 : (List Text)) : Rs (((List (Text × (List Text))) × (List Text)) × (List Text)) :=
 (foldR (S := ((List Text) × (List (Text × (List Text))) × (List Text))) (fun (s7 : ((List Text) × (List (Text × (List Text))) × (List Text))) (x8 : Int) => (m_law_tape x8 plain_2).bd fun tape_here_10 =>
 (m_law_digit tape_here_10 (3 : Int)).bd fun q_11 =>
 (m_law_name q_11.2 s7.2.2 (12 : Int)).bd fun q_12 =>
 (Rs.ok (!isin q_12.1 s7.2.2)).bd fun k_13 =>
 (if k_13 = true then ((appR s7.2.2 q_12.1).bd fun old_15 =>
 Rs.ok old_15 : Rs (List Text))
 else Rs.ok s7.2.2).bd fun s14 =>
 (Rs.ok ((!(dget s7.2.1 q_12.1).isSome) && (!isin q_12.1 s7.1))).bd fun k_17 =>
 if k_17 = true then
 (if (decide (q_11.1 = (2 : Int))) = true then ((appR s7.1 q_12.1).bd fun gone_19 =>
 Rs.ok (q_12.2, gone_19, s7.2.1) : Rs ((List Int) × (List Text) × (List (Text × (List Text)))))
 else (m_law_parts q_12.2 plain_2).bd fun q_21 => (Rs.ok q_12.1).bd fun k_23 => (putR s7.2.1 k_23 q_21.1).bd fun texts_22 =>
 Rs.ok (q_21.2, s7.1, texts_22)).bd fun s18 =>
 Rs.ok (s18.2.1, s18.2.2, s14)
 else Rs.ok (s7.1, s7.2.1, s14)) ([], [], old_3) cells_1).bd fun s7 =>
 Rs.ok ((s7.2.1, s7.1), s7.2.2)
theorem ok_law_entries (T : Tx K mg) : CallOk P w K mg base "_law_entries" 4 (spV PL.rC (B3 (rL K PL.rI) PL.rB (rT2 K (rD (rTL K PL.rC)) (rL K PL.rC)) (fun t x0 x1 => m_law_entries x0 x1 t))) := call_law_entries T fun f fd F =>
  fn_v F sc_law_entries (by rintro ss xs ys R ⟨_, _, _, rfl, _, rfl⟩; rfl) (by
    rintro cdv A outer s H E G o ss old_3 ys R hr ⟨cells_1, plain_2, z, rfl, hm, rfl⟩
    have nd := sc_law_entries.nd
    unfold m_law_entries at hm
    refine gm_run (D := fun z => retB G H o PL.rC z.2 (fun G v => ((rT2 K (rD (rTL K PL.rC)) (rL K PL.rC))).rd G v z.1)) (o := (z, ys)) ?_ hm
    refine gm_setD (rTL K PL.rC) 3 nd fun o_4 => ?_
    refine gm_setF (r := PL.rC) 4 nd (ef_nil) fun o_5 => ?_
    refine gm_for (S := ((List Text) × (List (Text × (List Text))) × (List Text))) (fun (s7 : ((List Text) × (List (Text × (List Text))) × (List Text))) => ⟨⟨G, hid H o, []⟩, [.val (rL K PL.rI) cells_1, .val PL.rB plain_2, .val rRef o, .val rRef o_4, .val rRef o_5, .any, .any, .any, .any], [.lst o_5 PL.rC s7.1, .dic o_4 (rTL K PL.rC) s7.2.1, .lst o PL.rC s7.2.2]⟩) ([], [], old_3) rfl PassesOwn.never (ei_list (ev_v 0)) rfl (.same (.same (.same (.same (.same (.any (.any (.any (.any (.nil)))))))))) rfl (fun B8 x8 s7 => ⟨_, eg_name 5 nd, ?_⟩) (fun s7 => ?_)
    · refine gm_setFM (r := PL.rI) 6 nd (efm_c2 (ok_law_tape T) (hr.mono (by decide)) (ea_cons (ev_v 5) (ea_cons (ev_v 1) ea_nil))) fun tape_here_10 o_9 => ?_
      refine gm_setS (Zs := (fun u : List Int => ⟨⟨G, hid H o, [B8]⟩, [.val (rL K PL.rI) cells_1, .val PL.rB plain_2, .val rRef o, .val rRef o_4, .val rRef o_5, .val PL.rI x8, .val rRef o_9, .any, .any], [.lst o_9 PL.rI u, .lst o_5 PL.rC s7.1, .dic o_4 (rTL K PL.rC) s7.2.1, .lst o PL.rC s7.2.2]⟩)) (r := PL.rI) 7 nd (es_b2 (Zl := (fun u : List Int => ⟨⟨G, hid H o, [B8]⟩, [.val (rL K PL.rI) cells_1, .val PL.rB plain_2, .val rRef o, .val rRef o_4, .val rRef o_5, .val PL.rI x8, .val rRef o_9, .any, .any], [.lst o_9 PL.rI u, .lst o_5 PL.rC s7.1, .dic o_4 (rTL K PL.rC) s7.2.1, .lst o PL.rC s7.2.2]⟩)) 6 0 tape_here_10 (ok_law_digit T) (hr.mono (by decide)) (ea_cons (ev_int) ea_nil) rfl rfl) fun q_11 => ?_
      refine gm_setS (Zs := (fun u : List Int => ⟨⟨G, hid H o, [B8]⟩, [.val (rL K PL.rI) cells_1, .val PL.rB plain_2, .val rRef o, .val rRef o_4, .val rRef o_5, .val PL.rI x8, .val rRef o_9, .val PL.rI q_11.1, .any], [.lst o_9 PL.rI u, .lst o_5 PL.rC s7.1, .dic o_4 (rTL K PL.rC) s7.2.1, .lst o PL.rC s7.2.2]⟩)) (r := PL.rC) 8 nd (es_b3L (Zl := (fun u : List Int => ⟨⟨G, hid H o, [B8]⟩, [.val (rL K PL.rI) cells_1, .val PL.rB plain_2, .val rRef o, .val rRef o_4, .val rRef o_5, .val PL.rI x8, .val rRef o_9, .val PL.rI q_11.1, .any], [.lst o_9 PL.rI u, .lst o_5 PL.rC s7.1, .dic o_4 (rTL K PL.rC) s7.2.1, .lst o PL.rC s7.2.2]⟩)) 6 0 2 3 (r := PL.rC) q_11.2 (ok_law_name T) (hr.mono (by decide)) nol_C nol_I rfl rfl (ea_cons (ev_v 2) (ea_cons (ev_int) ea_nil)) rfl rfl (by decide)) fun q_12 => ?_
      refine gm_ifJM (S := (List Text)) (fun (s14 : (List Text)) => ⟨⟨G, hid H o, [B8]⟩, [.val (rL K PL.rI) cells_1, .val PL.rB plain_2, .val rRef o, .val rRef o_4, .val rRef o_5, .val PL.rI x8, .val rRef o_9, .val PL.rI q_11.1, .val PL.rC q_12.1], [.lst o_9 PL.rI q_12.2, .lst o_5 PL.rC s7.1, .dic o_4 (rTL K PL.rC) s7.2.1, .lst o PL.rC s14]⟩) (etm_lent 2 3 rfl rfl (etm_ok (et_c (cm_notInL dC hr (ev_v 8) (ev_v 2))))) (fun k_13 => ?_) (fun k_13 => ?_) (fun s14 => ?_)
      · refine gm_append 2 3 (r := PL.rC) (ev_v 8) rfl rfl fun old_15 => ?_
        exact gm_to old_15 rfl (.same (.same (.same (.same (.same (.same (.same (.same (.same (.nil)))))))))) rfl
      · exact gm_to s7.2.2 rfl (.same (.same (.same (.same (.same (.same (.same (.same (.same (.nil)))))))))) rfl
      refine gm_ifM (etm_lent 4 1 rfl rfl (etm_lentD 3 1 rfl rfl (etm_ok (ev_w (ew_and (et_c (cm_notInD hr (ev_v 8) (ev_v 3))) fun _ => ew_and1 (et_c (cm_notInL dC hr (ev_v 8) (ev_v 4)))))))) (fun k_17 => ?_) (fun k_17 => ?_)
      · refine gm_ifJ (S := ((List Int) × (List Text) × (List (Text × (List Text))))) (fun (s18 : ((List Int) × (List Text) × (List (Text × (List Text))))) => ⟨⟨G, hid H o, [B8]⟩, [.val (rL K PL.rI) cells_1, .val PL.rB plain_2, .val rRef o, .val rRef o_4, .val rRef o_5, .val PL.rI x8, .val (rL K PL.rI) s18.1, .val PL.rI q_11.1, .val PL.rC q_12.1], [.lst o_5 PL.rC s18.2.1, .dic o_4 (rTL K PL.rC) s18.2.2, .lst o PL.rC s14]⟩) (et_c (cm_eqI (ev_v 7) (ev_int))) ?_ ?_ (fun s18 => ?_)
        · refine gm_frz 6 0 rfl rfl ?_
          refine gm_append 4 0 (r := PL.rC) (ev_v 8) rfl rfl fun gone_19 => ?_
          exact gm_to (q_12.2, gone_19, s7.2.1) rfl (.same (.same (.same (.same (.same (.same (.same (.same (.same (.nil)))))))))) rfl
        · refine gm_putDV (Zs := (fun u : List Int => ⟨⟨G, hid H o, [B8]⟩, [.val (rL K PL.rI) cells_1, .val PL.rB plain_2, .val rRef o, .val rRef o_4, .val rRef o_5, .val PL.rI x8, .val rRef o_9, .val PL.rI q_11.1, .val PL.rC q_12.1], [.lst o_9 PL.rI u, .lst o_5 PL.rC s7.1, .dic o_4 (rTL K PL.rC) s7.2.1, .lst o PL.rC s14]⟩)) 2 (r := (rTL K PL.rC)) hr (es_b2 (Zl := (fun u : List Int => ⟨⟨G, hid H o, [B8]⟩, [.val (rL K PL.rI) cells_1, .val PL.rB plain_2, .val rRef o, .val rRef o_4, .val rRef o_5, .val PL.rI x8, .val rRef o_9, .val PL.rI q_11.1, .val PL.rC q_12.1], [.lst o_9 PL.rI u, .lst o_5 PL.rC s7.1, .dic o_4 (rTL K PL.rC) s7.2.1, .lst o PL.rC s14]⟩)) 6 0 q_12.2 (ok_law_parts T) (hr.mono (by decide)) (ea_cons (ev_v 1) ea_nil) rfl rfl) (fun q_21 => ev_v 3) (fun q_21 => em_ok (r := PL.rC) (ev_v 8)) (fun _ => rfl) fun q_21 texts_22 => ?_
          refine gm_frz 6 0 rfl rfl ?_
          exact gm_to (q_21.2, s7.1, texts_22) rfl (.same (.same (.same (.same (.same (.same (.same (.same (.same (.nil)))))))))) rfl
        refine gm_on ?_
        exact gm_next (s18.2.1, s18.2.2, s14) rfl (.same (.same (.same (.same (.same (.any (.any (.any (.any (.nil)))))))))) rfl
      · refine gm_frz 6 0 rfl rfl ?_
        refine gm_on ?_
        exact gm_next (s7.1, s7.2.1, s14) rfl (.same (.same (.same (.same (.same (.any (.any (.any (.any (.nil)))))))))) rfl
    refine gm_frz 4 0 rfl rfl ?_
    refine gm_frzD 3 0 rfl rfl ?_
    exact gm_retB (r := (rT2 K (rD (rTL K PL.rC)) (rL K PL.rC))) 0 (ev_tup2 (ea_cons (ev_v 3) (ea_cons (ev_v 4) ea_nil))) rfl)

noncomputable def m_law_right (layer_here_1 : OLayer) (texts_2 : (List (Text × (List Text)))) (gone_3 : (List Text)) : Rs Bool :=
 (rngR (2 : Int)).bd fun xs_4 =>
 (forX (S := Unit) (ζ := Bool) (fun (s5 : Unit) (x6 : Int) => (m_Layer_names layer_here_1).bd fun names_8 =>
 (m_Layer_gone layer_here_1).bd fun left_10 =>
 (m_Layer_texts layer_here_1).bd fun told_11 =>
 ((Rs.ok (!true)).bd fun k13 => if k13 = true then Rs.ok true else (catR (texts_2.map (·.1)) gone_3).bd fun v_13 =>
 Rs.ok (!decide (names_8 = (srtC v_13)))).bd fun k_15 =>
 if k_15 = true then
 Rs.ok (Stp.ret false)
 else (Rs.ok ((!true) || ((!decide (left_10 = (srtC gone_3))) || ((!true) || (!dEq told_11 texts_2))))).bd fun k_16 =>
 if k_16 = true then
 Rs.ok (Stp.ret false)
 else (appR names_8 (tx "zz")).bd fun names_17 =>
 (appR left_10 (tx "zz")).bd fun left_19 =>
 Rs.ok (.nxt ())) () xs_4).bd (Stp.fin (fun s5 =>
 Rs.ok true) (fun z => z))
theorem ok_law_right (T : Tx K mg) : CallOk P w K mg base "_law_right" 2 (spG (M3 (rOLayer K) (rD (rTL K PL.rC)) (rL K PL.rC) PL.rB m_law_right)) := call_law_right T fun f fd F =>
  fn_d F sc_law_right (by rintro ss R ⟨_, _, _, _, rfl, _, rfl⟩; rfl) (by
    rintro cdv A outer s H E G ss R hr ⟨layer_here_1, texts_2, gone_3,  z, rfl, hm, rfl⟩
    have nd := sc_law_right.nd
    unfold m_law_right at hm
    refine gm_run (D := fun z => retD G H (fun G v => (PL.rB).rd G v z)) ?_ hm
    refine gm_forXM (S := Unit) (ζ := Bool) (fun z => z) (fun (s5 : Unit) => ⟨⟨G, H, []⟩, [.val (rOLayer K) layer_here_1, .val (rD (rTL K PL.rC)) texts_2, .val (rL K PL.rC) gone_3, .any, .any, .any, .any], []⟩) () rfl PassesOwn.never (eim_range T.b_range (ea_cons (ev_int) ea_nil)) rfl (.same (.same (.same (.any (.any (.any (.any (.nil)))))))) rfl (fun B6 x6 s5 => ⟨_, eg_name 3 nd, ?_⟩) (fun s5 => ?_)
    · refine gm_setFM (r := PL.rC) 4 nd (efm_m1 (me_Layer_names T) (hr.mono (by decide)) (ev_v 0)) fun names_8 o_7 => ?_
      refine gm_setFM (r := PL.rC) 5 nd (efm_m1 (me_Layer_gone T) (hr.mono (by decide)) (ev_v 0)) fun left_10 o_9 => ?_
      refine gm_setFD (r := (rTL K PL.rC)) 6 nd (efdm_m1 (me_Layer_texts T) (hr.mono (by decide)) (ev_v 0)) fun told_11 o_12 => ?_
      refine gm_ifM (etm_lent 4 2 rfl rfl (etm_w (ewm_or (etm_ok (et_not (ev_t (ev_isi "list" true T.b_isinstance T.b_list (ev_v 4) ty_L)))) (ewm_or1 (etm_bd (em_f (efm_cat (r := PL.rC) (ev_f (ef_listD rfl T.b_list (ea_cons (ev_v 1) ea_nil))) (ev_v 2))) fun v_13 h13 =>
         etm_ok (et_c (cm_neD (dL dC) hr (ev_v 4) (ev_f (ef_sortedC hr T.b_sorted (ea_cons (h13) ea_nil)))))))))) (fun k_15 => ?_) (fun k_15 => ?_)
      · refine gm_frzD 6 0 rfl rfl ?_
        refine gm_frz 5 0 rfl rfl ?_
        refine gm_frz 4 0 rfl rfl ?_
        exact gm_ret (r := PL.rB) (ev_bl)
      · refine gm_on ?_
        refine gm_ifM (etm_lent 5 1 rfl rfl (etm_lentD 6 0 rfl rfl (etm_ok (ev_w (ew_or (et_not (ev_t (ev_isi "list" true T.b_isinstance T.b_list (ev_v 5) ty_L))) fun _ => ew_or (et_c (cm_neD (dL dC) hr (ev_v 5) (ev_f (ef_sortedC hr T.b_sorted (ea_cons (ev_v 2) ea_nil))))) fun _ => ew_or (et_not (ev_t (ev_isi "dict" true T.b_isinstance T.b_dict (ev_v 6) ty_D))) fun _ => ew_or1 (et_c (cm_neDict (dTL dC) hr (ev_v 6) (ev_v 1)))))))) (fun k_16 => ?_) (fun k_16 => ?_)
        · refine gm_frzD 6 0 rfl rfl ?_
          refine gm_frz 5 0 rfl rfl ?_
          refine gm_frz 4 0 rfl rfl ?_
          exact gm_ret (r := PL.rB) (ev_bl)
        · refine gm_on ?_
          refine gm_append 4 2 (r := PL.rC) (ev_txt) rfl rfl fun names_17 => ?_
          refine gm_frz 4 2 rfl rfl ?_
          refine gm_append 5 1 (r := PL.rC) (ev_txt) rfl rfl fun left_19 => ?_
          refine gm_frz 5 1 rfl rfl ?_
          refine gm_clearD 6 0 rfl rfl ?_
          refine gm_frzD 6 0 rfl rfl ?_
          exact gm_nextX () rfl (.same (.same (.same (.any (.any (.any (.any (.nil)))))))) rfl
    exact gm_ret (r := PL.rB) (ev_bl))

noncomputable def m_law_layer (rulebook_1 : RB) (texts_2 : (List (Text × (List Text)))) (gone_3 : (List Text)) : Rs (Option OLayer) :=
 (m_OLayer rulebook_1 texts_2 gone_3).bd fun made_8 =>
 (Rs.ok (!(dEq (texts_2, gone_3).1 (texts_2, gone_3).1 && decide ((texts_2, gone_3).2 = (texts_2, gone_3).2)))).bd fun k_9 =>
 if k_9 = true then
 Rs.ok none
 else (Rs.ok (tx "zz")).bd fun v_11 => (appR gone_3 v_11).bd fun handed_10 =>
 Rs.ok (some made_8)
theorem ok_law_layer (T : Tx K mg) : CallOk P w K mg base "_law_layer" 3 (spG (M3 (rRB K) (rD (rTL K PL.rC)) (rL K PL.rC) (rO (rOLayer K)) m_law_layer)) := call_law_layer T fun f fd F =>
  fn_d F sc_law_layer (by rintro ss R ⟨_, _, _, _, rfl, _, rfl⟩; rfl) (by
    rintro cdv A outer s H E G ss R hr ⟨rulebook_1, texts_2, gone_3,  z, rfl, hm, rfl⟩
    have nd := sc_law_layer.nd
    unfold m_law_layer at hm
    refine gm_run (D := fun z => retD G H (fun G v => ((rO (rOLayer K))).rd G v z)) ?_ hm
    refine gm_mkH 3 nd (en_d (efd_dict T.b_dict (ev_v 1))) (en_f (ef_list T.b_list (ea_cons (ev_v 2) ea_nil))) fun o_4 o_5 o_6 => ?_
    refine gm_setM (r := (rOLayer K)) 4 nd (em_kLyF 2 1 (mk_OLayerF T) (hr.mono (by decide)) (ev_v 0) (ev_ptH 3 0 0 rfl rfl rfl (ev_v 3)) (ev_ptH 3 0 1 rfl rfl rfl (ev_v 3)) rfl rfl) fun made_8 => ?_
    refine gm_ifM (etm_lentH 3 0 1 0 pt_dic pt_lst rfl rfl rfl rfl (etm_ok (et_c (cm_neHD (dTL dC) dC hr (ev_v 3) (ev_hl2 (ea_cons (ev_v 1) (ea_cons (ev_v 2) ea_nil))))))) (fun k_9 => ?_) (fun k_9 => ?_)
    · exact gm_ret (r := (rO (rOLayer K))) (ev_oN (ev_non))
    · refine gm_on ?_
      refine gm_clrDE 2 (r := (rTL K PL.rC)) (ev_ptH 3 0 0 rfl rfl rfl (ev_v 3)) rfl ?_
      refine gm_appE 1 (r := PL.rC) (ev_ptH 3 0 1 rfl rfl rfl (ev_v 3)) (em_ok (r := PL.rC) (ev_txt)) rfl fun v_11 handed_10 => ?_
      exact gm_ret (r := (rO (rOLayer K))) (ev_oS (ev_v 4)))

noncomputable def m_law (script_1 : (List Int)) : Rs Bool :=
 ((m_law_nth script_1 (0 : Int)).bd fun v_2 =>
 Rs.ok (decide ((v_2 % (2 : Int)) = (1 : Int)))).bd fun plain_3 =>
 (m_law_entries (pickL script_1 (some (1 : Int)) (some (41 : Int)) (some (2 : Int))) plain_3 []).bd fun q_6 =>
 (m_law_entries (pickL script_1 (some (2 : Int)) (some (41 : Int)) (some (2 : Int))) plain_3 q_6.2).bd fun q_7 =>
 (m_RB [(tx "s", tx "", (2 : Int))] [tx "the"]).bd fun rulebook_9 =>
 (m_law_layer rulebook_9 q_6.1.1 q_6.1.2).bd fun lower_11 =>
 (m_law_layer rulebook_9 q_7.1.1 q_7.1.2).bd fun upper_13 =>
 if (lower_11.isNone || upper_13.isNone) = true then
 Rs.ok false
 else (foldR (S := (List (Text × (List Text)))) (fun (s15 : (List (Text × (List Text)))) (x16 : Text) => if (!isin x16 q_7.1.2) = true then
 (dgetR q_6.1.1 x16).bd fun v_19 =>
 (Rs.ok x16).bd fun k_20 =>
 (putR s15 k_20 v_19).bd fun due_18 =>
 Rs.ok due_18
 else Rs.ok s15) [] (q_6.1.1.map (·.1))).bd fun s15 =>
 (Rs.ok q_7.1.1).bd fun v_22 => (updR s15 v_22).bd fun due_21 =>
 ((lcR (fun (x23 : Text) => Rs.ok ((!(dget q_7.1.1 x23).isSome) && (!isin x23 q_7.1.2))) (fun (x23 : Text) => Rs.ok x23) q_6.1.2).bd fun v_24 =>
 catR v_24 q_7.1.2).bd fun lost_26 =>
 ((optR lower_11).bd fun c_27 =>
 (optR upper_13).bd fun c_28 =>
 m_poured c_27 c_28).bd fun both_30 =>
 ((Rs.ok (!true)).bd fun k31 => if k31 = true then Rs.ok true else (m_law_right both_30 due_21 lost_26).bd fun v_31 =>
 Rs.ok (!v_31)).bd fun k_33 =>
 if k_33 = true then
 Rs.ok false
 else (((m_lowest both_30).bd fun v_34 =>
 (m_law_right v_34 due_21 []).bd fun v_35 =>
 Rs.ok (!v_35)).bd fun k38 => if k38 = true then Rs.ok true else (optR upper_13).bd fun c_36 =>
 (m_lowest c_36).bd fun v_37 =>
 (m_law_right v_37 q_7.1.1 []).bd fun v_38 =>
 Rs.ok (!v_38)).bd fun k_40 =>
 if k_40 = true then
 Rs.ok false
 else (Rs.ok q_6.1.1).bd fun every_41 =>
 (Rs.ok q_7.1.1).bd fun v_44 => (updR every_41 v_44).bd fun every_43 =>
 ((optR lower_11).bd fun c_45 =>
 (m_lowest c_45).bd fun v_46 =>
 (optR upper_13).bd fun c_47 =>
 (m_lowest c_47).bd fun v_48 =>
 (m_poured v_46 v_48).bd fun v_49 =>
 (m_law_right v_49 every_43 []).bd fun v_50 =>
 Rs.ok (!v_50)).bd fun k_51 =>
 if k_51 = true then
 Rs.ok false
 else (((optR lower_11).bd fun c_52 =>
 (m_law_right c_52 q_6.1.1 q_6.1.2).bd fun v_53 =>
 Rs.ok v_53).bd fun k57 => if k57 = true then ((optR upper_13).bd fun c_54 =>
 (m_law_right c_54 q_7.1.1 q_7.1.2).bd fun v_55 =>
 Rs.ok v_55).bd fun k56 => if k56 = true then (m_law_right both_30 due_21 lost_26).bd fun v_56 =>
 Rs.ok v_56 else Rs.ok false else Rs.ok false).bd fun z_60 => Rs.ok z_60
def lvl : Nat := 5
theorem fn_law (T : Tx K mg) {f : Addr} {fd : FuncData} (F : F_law K f fd) : FnOk P w K mg base CX0 lvl f fd ["_law_script"] (spG (M1 (rL K PL.rI) PL.rB m_law)) :=
  fn_d F sc_law (by rintro ss R ⟨_, _, rfl, _, rfl⟩; rfl) (by
    rintro cdv A outer s H E G ss R hr ⟨script_1,  z, rfl, hm, rfl⟩
    have nd := sc_law.nd
    unfold m_law at hm
    refine gm_run (D := fun z => retD G H (fun G v => (PL.rB).rd G v z)) ?_ hm
    refine gm_setM (r := PL.rB) 1 nd (em_bd (em_c2 (ok_law_nth T) (hr.mono (by decide)) (ea_cons (ev_v 0) (ea_cons (ev_int) ea_nil))) fun v_2 h2 =>
       em_ok (r := PL.rB) (ev_c (cm_eqI (ev_mod (h2) (ev_int) (by decide)) (ev_int)))) fun plain_3 => ?_
    refine gm_setF (r := PL.rC) 2 nd (ef_nil) fun o_4 => ?_
    refine gm_asgS (Zs := (fun u : List Text => ⟨⟨G, H, []⟩, [.val (rL K PL.rI) script_1, .val PL.rB plain_3, .val rRef o_4, .any, .any, .any, .any, .any, .any, .any, .any, .any, .any, .any, .any], [.lst o_4 PL.rC u]⟩)) (r := (rT2 K (rD (rTL K PL.rC)) (rL K PL.rC))) (es_v3 (Zl := (fun u : List Text => ⟨⟨G, H, []⟩, [.val (rL K PL.rI) script_1, .val PL.rB plain_3, .val rRef o_4, .any, .any, .any, .any, .any, .any, .any, .any, .any, .any, .any, .any], [.lst o_4 PL.rC u]⟩)) 2 0 [] (ok_law_entries T) (hr.mono (by decide)) (ev_f (ef_pick (i := some (1 : Int)) (j := some (41 : Int)) (k := some (2 : Int)) (ev_v 0) (eo_some (ev_int)) (eo_some (ev_int)) (eo_some (ev_int)))) (ev_v 1) rfl rfl) fun q_6 => ⟨_, eg_tup2 rfl (eg_name 3 nd) (eg_name 4 nd), ?_⟩
    refine gm_asgS (Zs := (fun u : List Text => ⟨⟨G, H, []⟩, [.val (rL K PL.rI) script_1, .val PL.rB plain_3, .val rRef o_4, .val (rD (rTL K PL.rC)) q_6.1.1, .val (rL K PL.rC) q_6.1.2, .any, .any, .any, .any, .any, .any, .any, .any, .any, .any], [.lst o_4 PL.rC u]⟩)) (r := (rT2 K (rD (rTL K PL.rC)) (rL K PL.rC))) (es_v3 (Zl := (fun u : List Text => ⟨⟨G, H, []⟩, [.val (rL K PL.rI) script_1, .val PL.rB plain_3, .val rRef o_4, .val (rD (rTL K PL.rC)) q_6.1.1, .val (rL K PL.rC) q_6.1.2, .any, .any, .any, .any, .any, .any, .any, .any, .any, .any], [.lst o_4 PL.rC u]⟩)) 2 0 q_6.2 (ok_law_entries T) (hr.mono (by decide)) (ev_f (ef_pick (i := some (2 : Int)) (j := some (41 : Int)) (k := some (2 : Int)) (ev_v 0) (eo_some (ev_int)) (eo_some (ev_int)) (eo_some (ev_int)))) (ev_v 1) rfl rfl) fun q_7 => ⟨_, eg_tup2 rfl (eg_name 5 nd) (eg_name 6 nd), ?_⟩
    refine gm_frz 2 0 rfl rfl ?_
    refine gm_setM (r := (rRB K)) 7 nd (em_k2 (mk_RB T) (hr.mono (by decide)) (ea_cons (ev_f (ef_lst (r := (rT3 K PL.rC PL.rC PL.rI)) (xs := [(tx "s", tx "", (2 : Int))]) (ea_cons (ev_tup3 (ea_cons (ev_txt) (ea_cons (ev_txt) (ea_cons (ev_int) ea_nil)))) ea_nil) (szl 1))) (ea_cons (ev_f (ef_txts)) ea_nil))) fun rulebook_9 => ?_
    refine gm_setM (r := (rO (rOLayer K))) 8 nd (em_c3 (ok_law_layer T) (hr.mono (by decide)) (ea_cons (ev_v 7) (ea_cons (ev_v 3) (ea_cons (ev_v 4) ea_nil)))) fun lower_11 => ?_
    refine gm_setM (r := (rO (rOLayer K))) 9 nd (em_c3 (ok_law_layer T) (hr.mono (by decide)) (ea_cons (ev_v 7) (ea_cons (ev_v 5) (ea_cons (ev_v 6) ea_nil)))) fun upper_13 => ?_
    refine gm_if (ev_w (ew_or (et_c (cm_isN (ev_v 8) (nn_Obj))) fun _ => ew_or1 (et_c (cm_isN (ev_v 9) (nn_Obj))))) ?_ ?_
    · exact gm_ret (r := PL.rB) (ev_bl)
    · refine gm_on ?_
      refine gm_setD (rTL K PL.rC) 10 nd fun o_14 => ?_
      refine gm_forD (S := (List (Text × (List Text)))) (fun G H => (fun (s15 : (List (Text × (List Text)))) => ⟨⟨G, H, []⟩, [.val (rL K PL.rI) script_1, .val PL.rB plain_3, .val (rL K PL.rC) q_7.2, .val (rD (rTL K PL.rC)) q_6.1.1, .val (rL K PL.rC) q_6.1.2, .val (rD (rTL K PL.rC)) q_7.1.1, .val (rL K PL.rC) q_7.1.2, .val (rRB K) rulebook_9, .val (rO (rOLayer K)) lower_11, .val (rO (rOLayer K)) upper_13, .val rRef o_14, .any, .any, .any, .any], [.dic o_14 (rTL K PL.rC) s15]⟩)) [] rfl PassesOwn.never (eil_keys (ep_v 3)) (fun _ _ _ => rfl) (fun _ _ _ _ _ => ⟨rfl, rfl⟩) (.same (.same (.same (.same (.same (.same (.same (.same (.same (.same (.same (.any (.any (.any (.any (.nil)))))))))))))))) rfl (fun G H B16 x16 s15 => ⟨_, eg_name 11 nd, ?_⟩) (fun s15 => ?_)
      · refine gm_if (et_c (cm_notInL dC hr (ev_v 11) (ev_v 6))) ?_ ?_
        · refine gm_putDM 0 hr (em_getD hr (ev_v 3) (ev_v 11)) (ev_v 10) (em_ok (r := PL.rC) (ev_v 11)) rfl fun due_18 => ?_
          refine gm_on ?_
          exact gm_next due_18 rfl (.same (.same (.same (.same (.same (.same (.same (.same (.same (.same (.same (.any (.any (.any (.any (.nil)))))))))))))))) rfl
        · refine gm_on ?_
          exact gm_next s15 rfl (.same (.same (.same (.same (.same (.same (.same (.same (.same (.same (.same (.any (.any (.any (.any (.nil)))))))))))))))) rfl
      refine gm_upd 10 0 (r := (rTL K PL.rC)) (em_ok (r := (rD (rTL K PL.rC))) (ev_v 5)) rfl rfl fun due_21 => ?_
      refine gm_frzD 10 0 rfl rfl ?_
      refine gm_setM (r := (rL K PL.rC)) 12 nd (em_bd (em_f (efm_lc (s := PL.rC) (own := [("_law_name_here", 11)]) rfl nd (lcr_2 (r := PL.rC) (ei_list (ev_v 4)) fun B x23 => ⟨_, fun _ _ _ _ _ => egb_name 11 nd, fun _ _ _ _ _ => etm_ok (ev_w (ew_and (et_c (cm_notInD hr (ev_v 11) (ev_v 5))) fun _ => ew_and1 (et_c (cm_notInL dC hr (ev_v 11) (ev_v 6))))), fun _ _ _ _ _ => em_ok (r := PL.rC) (ev_v 11)⟩))) fun v_24 h24 =>
         em_f (efm_cat (r := PL.rC) (h24) (ev_v 6))) fun lost_26 => ?_
      refine gm_setM (r := (rOLayer K)) 13 nd (em_bd (em_opt (ev_v 8)) fun c_27 h27 =>
         em_bd (em_opt (ev_v 9)) fun c_28 h28 =>
         em_c2 (ok_poured T) (hr.mono (by decide)) (ea_cons (h27) (ea_cons (h28) ea_nil))) fun both_30 => ?_
      refine gm_ifM (etm_w (ewm_or (etm_ok (et_not (ev_t (ev_isC T.c_Layer T.is_Layer T.b_isinstance T.g_Layer (ev_v 13))))) (ewm_or1 (etm_bd (em_c3 (ok_law_right T) (hr.mono (by decide)) (ea_cons (ev_v 13) (ea_cons (ev_v 10) (ea_cons (ev_v 12) ea_nil)))) fun v_31 h31 =>
         etm_ok (et_not (ev_t (h31))))))) (fun k_33 => ?_) (fun k_33 => ?_)
      · exact gm_ret (r := PL.rB) (ev_bl)
      · refine gm_on ?_
        refine gm_ifM (etm_w (ewm_or (etm_bd (em_c1 (ok_lowest T) (hr.mono (by decide)) (ea_cons (ev_v 13) ea_nil)) fun v_34 h34 =>
           etm_bd (em_c3 (ok_law_right T) (hr.mono (by decide)) (ea_cons (h34) (ea_cons (ev_v 10) (ea_cons (ev_f (ef_nil)) ea_nil)))) fun v_35 h35 =>
           etm_ok (et_not (ev_t (h35)))) (ewm_or1 (etm_bd (em_opt (ev_v 9)) fun c_36 h36 =>
           etm_bd (em_c1 (ok_lowest T) (hr.mono (by decide)) (ea_cons (h36) ea_nil)) fun v_37 h37 =>
           etm_bd (em_c3 (ok_law_right T) (hr.mono (by decide)) (ea_cons (h37) (ea_cons (ev_v 5) (ea_cons (ev_f (ef_nil)) ea_nil)))) fun v_38 h38 =>
           etm_ok (et_not (ev_t (h38))))))) (fun k_40 => ?_) (fun k_40 => ?_)
        · exact gm_ret (r := PL.rB) (ev_bl)
        · refine gm_on ?_
          refine gm_setFD (r := (rTL K PL.rC)) 14 nd (efdm_ok (efd_dict T.b_dict (ev_v 3))) fun every_41 o_42 => ?_
          refine gm_upd 14 0 (r := (rTL K PL.rC)) (em_ok (r := (rD (rTL K PL.rC))) (ev_v 5)) rfl rfl fun every_43 => ?_
          refine gm_frzD 14 0 rfl rfl ?_
          refine gm_ifM (etm_bd (em_opt (ev_v 8)) fun c_45 h45 =>
             etm_bd (em_c1 (ok_lowest T) (hr.mono (by decide)) (ea_cons (h45) ea_nil)) fun v_46 h46 =>
             etm_bd (em_opt (ev_v 9)) fun c_47 h47 =>
             etm_bd (em_c1 (ok_lowest T) (hr.mono (by decide)) (ea_cons (h47) ea_nil)) fun v_48 h48 =>
             etm_bd (em_c2 (ok_poured T) (hr.mono (by decide)) (ea_cons (h46) (ea_cons (h48) ea_nil))) fun v_49 h49 =>
             etm_bd (em_c3 (ok_law_right T) (hr.mono (by decide)) (ea_cons (h49) (ea_cons (ev_v 14) (ea_cons (ev_f (ef_nil)) ea_nil)))) fun v_50 h50 =>
             etm_ok (et_not (ev_t (h50)))) (fun k_51 => ?_) (fun k_51 => ?_)
          · exact gm_ret (r := PL.rB) (ev_bl)
          · refine gm_on ?_
            exact gm_retM (r := PL.rB) (em_and (em_bd (em_opt (ev_v 8)) fun c_52 h52 =>
               em_bd (em_c3 (ok_law_right T) (hr.mono (by decide)) (ea_cons (h52) (ea_cons (ev_v 3) (ea_cons (ev_v 4) ea_nil)))) fun v_53 h53 =>
               em_ok (h53)) (em_and (em_bd (em_opt (ev_v 9)) fun c_54 h54 =>
               em_bd (em_c3 (ok_law_right T) (hr.mono (by decide)) (ea_cons (h54) (ea_cons (ev_v 5) (ea_cons (ev_v 6) ea_nil)))) fun v_55 h55 =>
               em_ok (h55)) (em_one (em_bd (em_c3 (ok_law_right T) (hr.mono (by decide)) (ea_cons (ev_v 13) (ea_cons (ev_v 10) (ea_cons (ev_v 12) ea_nil)))) fun v_56 h56 =>
               em_ok (h56))))))
end
end Lw

namespace Lw
open PySem PySem.Spec PyProof.Rows L2 PL Tp
/-! ### layers and houses, plainly -/
section
variable {α β S : Type}
theorem foldR_len {f : S → α → Rs S} {g : S → α → S} (len : S → Nat) (M : Nat) (h : ∀ s x, len s < M → f s x = .ok (g s x) ∧ len (g s x) ≤ len s + 1) : ∀ (xs : List α) (s : S), len s + xs.length ≤ M → foldR f s xs = .ok (xs.foldl g s) ∧ len (xs.foldl g s) ≤ len s + xs.length
  | [], s, _ => ⟨rfl, Nat.le_refl _⟩
  | x :: xs, s, hl => by
    rw [List.length_cons] at hl
    obtain ⟨e1, e2⟩ := h s x (by omega)
    obtain ⟨e3, e4⟩ := foldR_len len M h xs (g s x) (by omega)
    refine ⟨?_, ?_⟩
    · unfold foldR
      rw [e1]
      exact e3
    · rw [List.length_cons]
      show len (xs.foldl g (g s x)) ≤ _
      omega
theorem foldl_prod {T : Type} (a : S → α → S) (b : T → α → T) : ∀ (xs : List α) (p : S) (q : T), xs.foldl (fun s x => (a s.1 x, b s.2 x)) (p, q) = (xs.foldl a p, xs.foldl b q)
  | [], _, _ => rfl
  | x :: xs, p, q => foldl_prod a b xs (a p x) (b q x)
theorem dget_ddel (t k : Text) : ∀ l : List (Text × α), dget (ddel l t) k = if t = k then none else dget l k
  | [] => by simp [ddel, dget]
  | (a, x) :: l => by
    have ih := dget_ddel t k l
    unfold ddel at ih ⊢
    by_cases h : a = t
    · rw [List.filter_cons_of_neg (by simp [h]), ih]
      by_cases h2 : t = k
      · rw [if_pos h2, if_pos h2]
      · rw [if_neg h2, if_neg h2]
        show _ = if a = k then some x else dget l k
        rw [if_neg (by rw [h]; exact h2)]
    · rw [List.filter_cons_of_pos (by simp [h])]
      show (if a = k then some x else dget (l.filter _) k) = _
      by_cases h2 : t = k
      · rw [if_neg (by rw [← h2]; exact h), ih, if_pos h2, if_pos h2]
      · rw [if_neg h2, ih, if_neg h2]
        rfl
theorem dget_none_of {t : Text} : ∀ {l : List (Text × α)}, (¬ t ∈ l.map (·.1)) → dget l t = none
  | [], _ => rfl
  | (k, x) :: l, h => by
    unfold dget
    rw [List.map_cons, List.mem_cons, not_or] at h
    rw [if_neg fun z => h.1 z.symm]
    exact dget_none_of h.2
theorem key_iff {t : Text} {l : List (Text × α)} : t ∈ l.map (·.1) ↔ dget l t ≠ none := by
  constructor
  · exact fun h z => dget_mem z h
  · intro h
    by_cases hm : t ∈ l.map (·.1)
    · exact hm
    · exact absurd (dget_none_of hm) h
theorem dget_of_mem {t : Text} {x : α} : ∀ {l : List (Text × α)}, (l.map (·.1)).Nodup → (t, x) ∈ l → dget l t = some x
  | (k, y) :: l, hn, hm => by
    unfold dget
    rw [List.map_cons, List.nodup_cons] at hn
    rcases List.mem_cons.mp hm with h | h
    · cases h
      rw [if_pos rfl]
    · rw [if_neg fun z => hn.1 (by rw [z]; exact List.mem_map.mpr ⟨_, h, rfl⟩)]
      exact dget_of_mem hn.2 h
theorem dget_putT (y : β) (k : Text) : ∀ (xs : List Text) (g : List (Text × β)), dget (xs.foldl (fun g x => dput g x y) g) k = if k ∈ xs then some y else dget g k
  | [], g => by simp
  | x :: xs, g => by
    show dget (xs.foldl _ (dput g x y)) k = _
    rw [dget_putT y k xs, dget_dput]
    by_cases h : k ∈ xs
    · rw [if_pos h, if_pos (List.mem_cons_of_mem _ h)]
    · rw [if_neg h]
      by_cases h2 : x = k
      · rw [if_pos h2, if_pos (by rw [h2]; exact List.mem_cons_self ..)]
      · rw [if_neg h2, if_neg (fun z => (List.mem_cons.mp z).elim (fun q => h2 q.symm) h)]
theorem dget_delT (k : Text) : ∀ (xs : List Text) (g : List (Text × β)), dget (xs.foldl (fun g x => ddel g x) g) k = if k ∈ xs then none else dget g k
  | [], g => by simp
  | x :: xs, g => by
    show dget (xs.foldl _ (ddel g x)) k = _
    rw [dget_delT k xs, dget_ddel]
    by_cases h : k ∈ xs
    · rw [if_pos h, if_pos (List.mem_cons_of_mem _ h)]
    · rw [if_neg h]
      by_cases h2 : x = k
      · rw [if_pos h2, if_pos (by rw [h2]; exact List.mem_cons_self ..)]
      · rw [if_neg h2, if_neg (fun z => (List.mem_cons.mp z).elim (fun q => h2 q.symm) h)]
theorem dget_delQ (k : Text) : ∀ (us : List (Text × α)) (g : List (Text × β)), dget (us.foldl (fun g q => ddel g q.1) g) k = if dget us k = none then dget g k else none
  | [], g => rfl
  | (a, x) :: us, g => by
    show dget (us.foldl _ (ddel g a)) k = if (if a = k then some x else dget us k) = none then _ else _
    rw [dget_delQ k us, dget_ddel]
    by_cases h : a = k
    · simp [h]
    · simp [h]
theorem dget_dupd (k : Text) : ∀ (us : List (Text × α)) (d : List (Text × α)), (us.map (·.1)).Nodup → dget (dupd d us) k = (dget us k).or (dget d k)
  | [], d, _ => rfl
  | (a, x) :: us, d, hn => by
    rw [List.map_cons, List.nodup_cons] at hn
    show dget (dupd (dput d a x) us) k = (if a = k then some x else dget us k).or _
    rw [dget_dupd k us _ hn.2, dget_dput]
    by_cases h : a = k
    · rw [if_pos h, if_pos h, dget_none_of (by rw [← h]; exact hn.1)]
      rfl
    · rw [if_neg h, if_neg h]
theorem nd_putT {y : β} : ∀ {xs : List Text} {g : List (Text × β)}, (g.map (·.1)).Nodup → ((xs.foldl (fun g x => dput g x y) g).map (·.1)).Nodup
  | [], _, h => h
  | _ :: xs, _, h => nd_putT (xs := xs) (dput_nd h)
theorem nd_delT : ∀ {xs : List Text} {g : List (Text × β)}, (g.map (·.1)).Nodup → ((xs.foldl (fun g x => ddel g x) g).map (·.1)).Nodup
  | [], _, h => h
  | _ :: xs, _, h => nd_delT (xs := xs) (ddel_nd h)
theorem nd_delQ : ∀ {us : List (Text × α)} {g : List (Text × β)}, (g.map (·.1)).Nodup → ((us.foldl (fun g q => ddel g q.1) g).map (·.1)).Nodup
  | [], _, h => h
  | _ :: us, _, h => nd_delQ (us := us) (ddel_nd h)
theorem nd_dupd : ∀ {us d : List (Text × α)}, (d.map (·.1)).Nodup → ((dupd d us).map (·.1)).Nodup
  | [], _, h => h
  | _ :: us, _, h => nd_dupd (us := us) (dput_nd h)
theorem len_dupd : ∀ (us d : List (Text × α)), (dupd d us).length ≤ d.length + us.length
  | [], _ => Nat.le_refl _
  | q :: us, d => by
    have h1 := len_dupd us (dput d q.1 q.2)
    have h2 := dput_len q.1 q.2 d
    show (dupd (dput d q.1 q.2) us).length ≤ d.length + (us.length + 1)
    omega
theorem len_delT : ∀ (xs : List Text) (g : List (Text × β)), (xs.foldl (fun g x => ddel g x) g).length ≤ g.length
  | [], _ => Nat.le_refl _
  | x :: xs, g => Nat.le_trans (len_delT xs (ddel g x)) (ddel_len g x)
theorem len_delQ : ∀ (us : List (Text × α)) (g : List (Text × β)), (us.foldl (fun g q => ddel g q.1) g).length ≤ g.length
  | [], _ => Nat.le_refl _
  | x :: us, g => Nat.le_trans (len_delQ us (ddel g x.1)) (ddel_len g x.1)
theorem len_putT (y : β) : ∀ (xs : List Text) (g : List (Text × β)), (xs.foldl (fun g x => dput g x y) g).length ≤ g.length + xs.length
  | [], _ => Nat.le_refl _
  | x :: xs, g => by
    have h1 := len_putT y xs (dput g x y)
    have h2 := dput_len x y g
    show (xs.foldl _ (dput g x y)).length ≤ g.length + (xs.length + 1)
    omega
end
/-! ### a layer -/
def szL (ly : OLayer) : Nat := ly.standing.length + ly.gone_names.length
structure LyOk (rb : RB) (ly : OLayer) : Prop where
  rb : ly.rules = rb
  nd1 : (ly.standing.map (fun q : Text × List Text => q.1)).Nodup
  nd2 : ly.gone_names.Nodup
  dj : ∀ k ∈ ly.gone_names, dget ly.standing k = none
theorem lynames_ok {ly : OLayer} (h : szL ly ≤ 1000000) : m_Layer_names ly = .ok (srtC (ly.standing.map (·.1) ++ ly.gone_names)) := by
  unfold m_Layer_names
  rw [catR_ok (by rw [List.length_map]; unfold szL at h; omega)]
  rfl
theorem srtC_nil : srtC [] = [] := by simp [srtC]
theorem layer_ok (rb : RB) (texts : List (Text × List Text)) (gone : List Text) : m_OLayer rb texts gone = .ok ⟨rb, texts, srtC gone⟩ := rfl
def pourG (lower upper : OLayer) : List (Text × Bool) := upper.standing.foldl (fun g q => ddel g q.1) (upper.gone_names.foldl (fun g x => dput g x true) (lower.gone_names.foldl (fun g x => dput g x true) []))
def pourT (lower upper : OLayer) : List (Text × List Text) := dupd (upper.gone_names.foldl (fun g x => ddel g x) lower.standing) upper.standing
def pourP (lower upper : OLayer) : OLayer := ⟨lower.rules, pourT lower upper, srtC ((pourG lower upper).map (·.1))⟩
theorem poured_ok {lower upper : OLayer} (hl : szL lower + szL upper ≤ 1000000) : m_poured lower upper = .ok (pourP lower upper) := by
  unfold szL at hl
  unfold m_poured m_Layer_texts m_Layer_gone
  simp only [Rs.bd_ok]
  obtain ⟨e1, l1⟩ := foldR_len (f := fun (s8 : List (Text × Bool)) (x9 : Text) => (putR s8 x9 true).bd fun gone_10 => Rs.ok gone_10) (g := fun g x => dput g x true) List.length 16777216 (fun s x h => ⟨by rw [putR_ok h]; rfl, dput_len ..⟩) lower.gone_names [] (by simp; omega)
  rw [e1, Rs.bd_ok]
  obtain ⟨e2, l2⟩ := foldR_len (f := fun (s15 : List (Text × Bool) × List (Text × List Text)) (x16 : Text) => (putR s15.1 x16 true).bd fun gone_19 => Rs.ok (gone_19, ddel s15.2 x16)) (g := fun s x => (dput s.1 x true, ddel s.2 x)) (fun s => s.1.length) 16777216 (fun s x h => ⟨by rw [putR_ok h]; rfl, dput_len ..⟩)
    upper.gone_names (lower.gone_names.foldl (fun g x => dput g x true) [], lower.standing) (by simp at l1 ⊢; omega)
  rw [e2, Rs.bd_ok, foldl_prod (fun g x => dput g x true) (fun g x => ddel g x)]
  have l3 := len_delT upper.gone_names lower.standing
  obtain ⟨e3, _⟩ := foldR_len (f := fun (s23 : List (Text × Bool) × List (Text × List Text)) (x24 : Text × List Text) => (putR s23.2 x24.1 x24.2).bd fun texts_27 => Rs.ok (ddel s23.1 x24.1, texts_27)) (g := fun s q => (ddel s.1 q.1, dput s.2 q.1 q.2)) (fun s => s.2.length) 16777216 (fun s x h => ⟨by rw [putR_ok h]; rfl, dput_len ..⟩)
    upper.standing (upper.gone_names.foldl (fun g x => dput g x true) (lower.gone_names.foldl (fun g x => dput g x true) []), upper.gone_names.foldl (fun g x => ddel g x) lower.standing) (by show (upper.gone_names.foldl (fun g x => ddel g x) lower.standing).length + _ ≤ _; omega)
  rw [e3, Rs.bd_ok, foldl_prod (fun (g : List (Text × Bool)) (q : Text × List Text) => ddel g q.1) (fun (g : List (Text × List Text)) (q : Text × List Text) => dput g q.1 q.2)]
  rfl
theorem pourG_get (lower upper : OLayer) (k : Text) : dget (pourG lower upper) k = if dget upper.standing k = none ∧ (k ∈ upper.gone_names ∨ k ∈ lower.gone_names) then some true else none := by
  unfold pourG
  rw [dget_delQ, dget_putT, dget_putT]
  by_cases h1 : dget upper.standing k = none
  · rw [if_pos h1]
    by_cases h2 : k ∈ upper.gone_names
    · rw [if_pos h2, if_pos ⟨h1, .inl h2⟩]
    · rw [if_neg h2]
      by_cases h3 : k ∈ lower.gone_names
      · rw [if_pos h3, if_pos ⟨h1, .inr h3⟩]
      · rw [if_neg h3, if_neg (fun z => z.2.elim h2 h3)]
        rfl
  · rw [if_neg h1, if_neg (fun z => h1 z.1)]
theorem pourT_get {rb : RB} (lower : OLayer) {upper : OLayer} (h : LyOk rb upper) (k : Text) : dget (pourT lower upper) k = (dget upper.standing k).or (if k ∈ upper.gone_names then none else dget lower.standing k) := by
  unfold pourT
  rw [dget_dupd _ _ _ h.nd1, dget_delT]
theorem pourG_mem (lower upper : OLayer) (k : Text) : k ∈ (pourG lower upper).map (·.1) ↔ dget upper.standing k = none ∧ (k ∈ upper.gone_names ∨ k ∈ lower.gone_names) := by
  rw [key_iff, pourG_get]
  split <;> simp [*]
theorem pour_LyOk {rb : RB} {lower upper : OLayer} (h1 : LyOk rb lower) (h2 : LyOk rb upper) : LyOk rb (pourP lower upper) := by
  refine ⟨h1.rb, nd_dupd (nd_delT h1.nd1), (List.Perm.nodup_iff (List.mergeSort_perm _ _)).mpr (nd_delQ (nd_putT (nd_putT List.nodup_nil))), fun k hk => ?_⟩
  obtain ⟨e1, e2⟩ := (pourG_mem lower upper k).mp (srtC_mem.mp hk)
  show dget (pourT lower upper) k = none
  rw [pourT_get lower h2, e1]
  by_cases h : k ∈ upper.gone_names
  · rw [if_pos h]; rfl
  · rw [if_neg h, h1.dj k (e2.resolve_left h)]; rfl
theorem pour_sz (lower upper : OLayer) : szL (pourP lower upper) ≤ szL lower + szL upper := by
  unfold szL
  have a1 := len_dupd upper.standing (upper.gone_names.foldl (fun g x => ddel g x) lower.standing)
  have a2 := len_delT upper.gone_names lower.standing
  have a3 := len_delQ upper.standing (upper.gone_names.foldl (fun g x => dput g x true) (lower.gone_names.foldl (fun g x => dput g x true) []))
  have a4 := len_putT true upper.gone_names (lower.gone_names.foldl (fun g x => dput g x true) [])
  have a5 := len_putT true lower.gone_names []
  have e1 : (pourP lower upper).standing.length = (pourT lower upper).length := rfl
  have e2 : (pourP lower upper).gone_names.length = (pourG lower upper).length := by
    show (srtC _).length = _
    rw [srtC_len, List.length_map]
  unfold pourT at e1
  unfold pourG at e2
  simp only [List.length_nil, Nat.zero_add] at a5
  omega
def lowP (ly : OLayer) : OLayer := ⟨ly.rules, ly.standing, []⟩
theorem lowest_ok (ly : OLayer) : m_lowest ly = .ok (lowP ly) := by
  unfold m_lowest m_Layer_texts
  simp only [Rs.bd_ok, layer_ok, srtC_nil]
  rfl
theorem low_LyOk {rb : RB} {ly : OLayer} (h : LyOk rb ly) : LyOk rb (lowP ly) := ⟨h.rb, h.nd1, List.nodup_nil, fun _ hk => by cases hk⟩
theorem low_sz (ly : OLayer) : szL (lowP ly) ≤ szL ly := Nat.le_add_right _ _
/-! ### names and parts as houses take them -/
def nameOk (t : Text) : Prop := t ≠ [] ∧ t.length ≤ 8 ∧ ∀ c ∈ t, c ∈ tx "abcdefghijklmnopqrstuvwxyz"
def partOk (t : Text) : Prop := ∀ c ∈ t, c ∈ tx " !\"#$&'()*+,-./0123456789:;<=>?@ABCDEFGHIJKLMNOPQRSTUVWXYZ[\\]^_`abcdefghijklmnopqrstuvwxyz{|}~"
def partsOk (ps : List Text) : Prop := ps.length = 3 ∧ ∀ t ∈ ps, partOk t
end Lw

namespace Lw
open PySem PySem.Spec PyProof.Rows L2 PL Tp
theorem partOk_tx {s : Text} (h : (s.all fun c => (tx " !\"#$&'()*+,-./0123456789:;<=>?@ABCDEFGHIJKLMNOPQRSTUVWXYZ[\\]^_`abcdefghijklmnopqrstuvwxyz{|}~").contains c) = true) : partOk s := fun c hc => by
  have := List.all_eq_true.mp h c hc
  simpa using this
theorem partOk_app {s t : Text} (h1 : partOk s) (h2 : partOk t) : partOk (s ++ t) := fun c hc => (List.mem_append.mp hc).elim (h1 c) (h2 c)
def ptsOk (ps : List Text) : Prop := partsOk ps ∧ ∀ t ∈ ps, t.length ≤ 400
/-! ### rows of changes -/
theorem dgetR_of {α : Type} {l : List (Text × α)} {t : Text} {x : α} (h : dget l t = some x) : dgetR l t = .ok x := by unfold dgetR; rw [h]
theorem hforX_inv {α S ζ : Type} {f : S → α → Rs (Stp S ζ)} (I : Nat → S → Prop) : ∀ {xs : List α} {s0 : S} (k : Nat), I k s0 → (∀ i x s, xs[i]? = some x → I (k + i) s → ∃ s', f s x = .ok (.nxt s') ∧ I (k + i + 1) s') → ∃ s, forX f s0 xs = .ok (.nxt s) ∧ I (k + xs.length) s
  | [], s0, k, h, _ => ⟨s0, rfl, h⟩
  | x :: xs, s0, k, h, hs => by
    obtain ⟨s', e, h'⟩ := hs 0 x s0 rfl h
    obtain ⟨s, e2, h2⟩ := hforX_inv I (xs := xs) (k + 1) h' fun i y s hy hI => by
      have := hs (i + 1) y s (by simpa using hy) (by rw [show k + (i + 1) = k + 1 + i by omega]; exact hI)
      rw [show k + (i + 1) + 1 = k + 1 + i + 1 by omega] at this
      exact this
    refine ⟨s, ?_, by rw [List.length_cons, show k + (xs.length + 1) = k + 1 + xs.length by omega]; exact h2⟩
    unfold forX
    rw [e]
    exact e2
theorem Yes.forX {α S ζ β : Type} {f : S → α → Rs (Stp S ζ)} {g : S → Rs β} {er : ζ → β} {xs : List α} {s0 : S} {Q : β → Prop} (I : Nat → S → Prop) (h0 : I 0 s0) (hs : ∀ i x s, xs[i]? = some x → I i s → Yes (f s x) fun o => ∃ s', o = .nxt s' ∧ I (i + 1) s') (q : ∀ s, I xs.length s → Yes (g s) Q) : Yes ((forX f s0 xs).bd (Stp.fin g er)) Q := by
  obtain ⟨s, e, hI⟩ := hforX_inv (f := f) I (xs := xs) (s0 := s0) 0 h0 fun i x s hx hI => by
    rw [Nat.zero_add] at hI ⊢
    obtain ⟨o, e, s', rfl, h⟩ := hs i x s hx hI
    exact ⟨s', e, h⟩
  rw [e]
  rw [Nat.zero_add] at hI
  exact q s hI
end Lw

namespace Lw
open PySem PySem.Spec PyProof.Rows L2 PL Tp
/-! ### what the laws about houses draw -/
def Tp2 (s : List Int) : Prop := ∃ a b, s = [a, b]
theorem hBt_zero {n : Nat} : Bt n 0 := Nat.zero_le _
theorem hmul_c {c d : Int} (hc : Bt 1048576 c) (hd : d.natAbs < 2 ^ 150) : mulR c d = .ok (c * d) := by
  refine mulR_ok (PySem.IntMulOk.of_le (m := 1048577) (n := 150) ?_ (PyProof.Rows.intBits_le hd) (by omega))
  unfold Builtin.Int.intBits
  split
  · exact Nat.zero_le _
  · exact Nat.succ_le_succ hc
theorem hmul_b {c d : Int} (hc : c.natAbs < 2 ^ 220) (hd : d.natAbs < 2 ^ 220) : mulR c d = .ok (c * d) := mulR_ok (PySem.IntMulOk.of_le (m := 220) (n := 220) (PyProof.Rows.intBits_le hc) (PyProof.Rows.intBits_le hd) (by omega))
theorem hnth_ok {ns : List Int} {k : Int} (hk : 0 ≤ k) (hb : ∀ i ∈ ns, Bt 1048576 i) : Yes (m_law_nth ns k) fun c => Bt 1048576 c := by
  unfold m_law_nth
  by_cases h : k < (ns.length : Int)
  · rw [if_pos (decide_eq_true h)]
    obtain ⟨x, hx, e⟩ := ixR_ok hk h
    rw [e]
    exact ⟨_, rfl, hb _ hx⟩
  · rw [if_neg (by rw [decide_eq_false h]; exact Bool.false_ne_true)]
    exact ⟨_, rfl, hBt_zero⟩
theorem htape_ok {c : Int} (p : Bool) (hc : Bt 1048576 c) : Yes (m_law_tape c p) Tp2 := by
  unfold m_law_tape
  rw [hmul_c (d := (48271 : Int) ^ 9) hc (by decide)]
  simp only [Rs.bd_ok]
  rw [hmul_c hc (by split <;> decide)]
  have h0 := Int.emod_nonneg (c * 48271 ^ 9 + 7 ^ 60) (show ((10 : Int) ^ 64 - 59) ≠ 0 by decide)
  have h1 := Int.emod_lt_of_pos (c * 48271 ^ 9 + 7 ^ 60) (show (0 : Int) < (10 : Int) ^ 64 - 59 by decide)
  generalize (c * 48271 ^ 9 + 7 ^ 60) % ((10 : Int) ^ 64 - 59) = v at *
  have hb : v.natAbs < 2 ^ 220 := by
    have h2 : ((10 : Int) ^ 64 - 59) < (2 : Int) ^ 220 := by decide
    have h3 : v < (2 : Int) ^ 220 := Int.lt_trans h1 h2
    omega
  simp only [Rs.bd_ok]
  rw [hmul_b hb hb]
  exact ⟨_, rfl, _, _, rfl⟩
theorem hdig_ok {s : List Int} {n : Int} (h : Tp2 s) (h0 : 0 < n) (hb : n < 1000000) : Yes (m_law_digit s n) fun q => (0 ≤ q.1 ∧ q.1 < n) ∧ Tp2 q.2 := by
  obtain ⟨a, b, rfl⟩ := h
  unfold m_law_digit
  rw [show ixR [a, b] (0 : Int) = .ok a from rfl]
  simp only [Rs.bd_ok]
  have hm : ∀ x : Int, 0 ≤ x % n ∧ x % n < n := fun x => ⟨Int.emod_nonneg _ (by omega), Int.emod_lt_of_pos _ h0⟩
  by_cases ha : a = 0
  · rw [if_pos (decide_eq_true ha), show ixR [a, b] (1 : Int) = .ok b from rfl]
    simp only [Rs.bd_ok]
    rw [modR_ok h0, divR_ok h0 (by omega)]
    simp only [Rs.bd_ok]
    rw [show setR [a, b] (1 : Int) (b / n) = .ok [a, b / n] from rfl]
    exact ⟨_, rfl, hm b, _, _, rfl⟩
  · rw [if_neg (by rw [decide_eq_false ha]; exact Bool.false_ne_true), show ixR [a, b] (0 : Int) = .ok a from rfl]
    simp only [Rs.bd_ok]
    rw [modR_ok h0, divR_ok h0 (by omega)]
    simp only [Rs.bd_ok]
    rw [show setR [a, b] (0 : Int) (a / n) = .ok [a / n, b] from rfl]
    exact ⟨_, rfl, hm a, _, _, rfl⟩
theorem hix {α β : Type} {xs : List α} {i : Int} {f : α → Rs β} {Q : β → Prop} (h : 0 ≤ i ∧ i < (xs.length : Int)) (q : ∀ x ∈ xs, Yes (f x) Q) : Yes ((ixR xs i).bd f) Q := by
  obtain ⟨x, hx, e⟩ := ixR_ok h.1 h.2
  exact Yes.by e (q x hx)
theorem hsgn {β : Type} {sg : Text} {i : Int} {f : Text → Rs β} {Q : β → Prop} (h : 0 ≤ i ∧ i < (sg.length : Int)) (q : ∀ c ∈ sg, Yes (f [c]) Q) : Yes ((sgnR sg i).bd f) Q := by
  obtain ⟨c, hc, e⟩ := ixR_ok h.1 h.2
  exact Yes.by (show sgnR sg i = .ok [c] by unfold sgnR; rw [e]; rfl) (q c hc)
theorem hname_ok {s : List Int} {old : List Text} {most : Int} (h : Tp2 s) (ho : ∀ t ∈ old, nameOk t) (hl : (old.length : Int) ≤ most) (h0 : 0 < most) (hm : most ≤ 1000) : Yes (m_law_name s old most) fun q => nameOk q.1 ∧ Tp2 q.2 ∧ (q.1 ∈ old ∨ (old.length : Int) < most) := by
  unfold m_law_name
  simp only [Rs.bd_ok]
  have key : Yes (if decide (most ≤ (old.length : Int)) = true then Rs.ok (true, s) else if (!decide (old = [])) = true then (m_law_digit s (3 : Int)).bd fun q_8 => Rs.ok (decide ((0 : Int) < q_8.1), q_8.2) else Rs.ok (false, s)) fun q : Bool × List Int => Tp2 q.2 ∧ (q.1 = true → old ≠ []) ∧ (q.1 = false → (old.length : Int) < most) := by
    by_cases h1 : most ≤ (old.length : Int)
    · rw [if_pos (decide_eq_true h1)]
      exact ⟨_, rfl, h, (fun _ z => by rw [z] at h1; have : ((([] : List Text).length : Nat) : Int) = 0 := rfl; omega), fun z => by cases z⟩
    · rw [if_neg (by rw [decide_eq_false h1]; exact Bool.false_ne_true)]
      by_cases h2 : old = []
      · rw [if_neg (by rw [decide_eq_true h2]; exact Bool.false_ne_true)]
        exact ⟨_, rfl, h, (fun z => by cases z), fun _ => by omega⟩
      · rw [if_pos (by rw [decide_eq_false h2]; rfl)]
        refine (hdig_ok h (by decide) (by decide)).bd fun q hq => ⟨_, rfl, hq.2, fun _ => h2, fun _ => by omega⟩
  refine key.bd fun q hq => ?_
  obtain ⟨b, t⟩ := q
  obtain ⟨q1, q2, q3⟩ := hq
  cases b with
  | true =>
    rw [if_pos rfl]
    have hne := q2 rfl
    have hp := List.length_pos_iff.mpr hne
    simp only [Rs.bd_as, Rs.bd_ok]
    exact (hdig_ok q1 (by omega) (by omega)).bd fun d hd => hix hd.1 fun x hx => ⟨_, rfl, ho x hx, hd.2, .inl hx⟩
  | false =>
    rw [if_neg Bool.false_ne_true]
    simp only [Rs.bd_as, Rs.bd_ok]
    refine (hdig_ok q1 (by decide) (by decide)).bd fun d hd => ?_
    have hd1 : 0 ≤ d.1 ∧ d.1 < 8 := hd.1
    refine Yes.by (rngR_ok (by show 0 ≤ (1 : Int) + d.1; omega) (by show (1 : Int) + d.1 ≤ _; omega)) ?_
    refine Yes.fold (fun i (st : Text × List Int) => st.1.length = i ∧ (∀ c ∈ st.1, c ∈ tx "abcdefghijklmnopqrstuvwxyz") ∧ Tp2 st.2) ⟨rfl, (fun _ hc => by cases hc), hd.2⟩ (fun i x st hx hI => ?_) (fun st hI => ?_)
    · obtain ⟨i1, i2, i3⟩ := hI
      have hi := (rngL_at hx).2
      refine (hdig_ok i3 (by decide) (by decide)).bd fun e he => ?_
      refine hsgn (sg := tx "abcdefghijklmnopqrstuvwxyz") he.1 fun c hc => ?_
      refine Yes.by (catR_ok (by show st.1.length + 1 ≤ _; rw [i1]; omega)) ⟨_, rfl, ?_, fun z hz => ?_, he.2⟩
      · show (st.1 ++ [c]).length = _
        rw [List.length_append, i1]; rfl
      · rcases List.mem_append.mp hz with hz | hz
        · exact i2 z hz
        · rw [List.mem_singleton.mp hz]; exact hc
    · obtain ⟨i1, i2, i3⟩ := hI
      rw [rngL_len] at i1
      have i1 : st.1.length = ((1 : Int) + d.1).toNat := i1
      have hl8 : st.1.length ≤ 8 := by rw [i1]; omega
      have hl1 : 1 ≤ st.1.length := by rw [i1]; omega
      exact ⟨_, rfl, ⟨fun z => (by rw [show st.1 = [] from z] at hl1; exact absurd hl1 (by decide)), hl8, i2⟩, i3, .inr (q3 rfl)⟩
def someW : List Text := [tx "cat", tx "Cats", tx "the", tx "running", tx "a1", tx "flies", tx "of", tx "s", tx "singing", tx "x", tx "bus", tx "catS", tx "the7", tx "ing"]
def someS : List Text := [tx " ", tx "-", tx ", ", tx "."]
theorem someW_ok : ∀ t ∈ someW, partOk t ∧ t.length ≤ 10 := by
  have h : (someW.all fun t => (t.all fun c => (tx " !\"#$&'()*+,-./0123456789:;<=>?@ABCDEFGHIJKLMNOPQRSTUVWXYZ[\\]^_`abcdefghijklmnopqrstuvwxyz{|}~").contains c) && decide (t.length ≤ 10)) = true := by decide +kernel
  intro t ht
  have := List.all_eq_true.mp h t ht
  rw [Bool.and_eq_true] at this
  exact ⟨partOk_tx this.1, of_decide_eq_true this.2⟩
theorem someS_ok : ∀ t ∈ someS, partOk t ∧ t.length ≤ 2 := by
  have h : (someS.all fun t => (t.all fun c => (tx " !\"#$&'()*+,-./0123456789:;<=>?@ABCDEFGHIJKLMNOPQRSTUVWXYZ[\\]^_`abcdefghijklmnopqrstuvwxyz{|}~").contains c) && decide (t.length ≤ 2)) = true := by decide +kernel
  intro t ht
  have := List.all_eq_true.mp h t ht
  rw [Bool.and_eq_true] at this
  exact ⟨partOk_tx this.1, of_decide_eq_true this.2⟩
theorem hsig_len : (tx " !\"#$&'()*+,-./0123456789:;<=>?@ABCDEFGHIJKLMNOPQRSTUVWXYZ[\\]^_`abcdefghijklmnopqrstuvwxyz{|}~").length = 94 := by decide +kernel
theorem htext_ok {s : List Int} (p : Bool) (h : Tp2 s) : Yes (m_law_text s p) fun q => (partOk q.1 ∧ q.1.length ≤ 400) ∧ Tp2 q.2 := by
  unfold m_law_text
  simp only [Rs.bd_ok]
  refine (hdig_ok h (by decide) (by decide)).bd fun q hq => ?_
  refine Yes.if (fun _ => ⟨_, rfl, ⟨(fun _ hc => by cases hc), Nat.zero_le _⟩, hq.2⟩) fun _ => Yes.if (fun _ => ?_) fun _ => ?_
  · have e : ixR [(30 : Int), (401 : Int)] (if p = true then 1 else 0) = .ok (if p = true then 401 else 30) := by cases p <;> rfl
    rw [e, Rs.bd_ok]
    refine (hdig_ok hq.2 (by split <;> decide) (by split <;> decide)).bd fun d hd => ?_
    have hd1 : 0 ≤ d.1 ∧ d.1 ≤ 400 := ⟨hd.1.1, by have := hd.1.2; split at this <;> omega⟩
    rw [rngR_ok hd1.1 (by omega), Rs.bd_ok]
    refine Yes.bd (P := fun q : Text × List Int => (partOk q.1 ∧ q.1.length ≤ 400) ∧ Tp2 q.2) ?_ fun x hx => ⟨_, rfl, hx⟩
    refine (mapS_ok (P := Tp2) (T := fun t : Text => ∃ c, t = [c] ∧ c ∈ tx " !\"#$&'()*+,-./0123456789:;<=>?@ABCDEFGHIJKLMNOPQRSTUVWXYZ[\\]^_`abcdefghijklmnopqrstuvwxyz{|}~") hd.2 fun t x _ ht => ?_).bd fun y hy => ?_
    · refine (hdig_ok ht (by decide) (by decide)).bd fun e he => ?_
      refine hsgn (by rw [hsig_len]; exact he.1) fun c hc => ⟨_, rfl, ⟨c, rfl, hc⟩, he.2⟩
    · obtain ⟨y1, y2, y3⟩ := hy
      have hl : y.1.length ≤ 400 := by rw [y1, rngL_len]; omega
      refine (join_ok (P := fun c => c ∈ tx " !\"#$&'()*+,-./0123456789:;<=>?@ABCDEFGHIJKLMNOPQRSTUVWXYZ[\\]^_`abcdefghijklmnopqrstuvwxyz{|}~") y2 hl (by decide)).bd fun t ht => ⟨_, rfl, ⟨ht.2, by show t.length ≤ 400; rw [ht.1]; exact hl⟩, y3⟩
  · simp only [Rs.bd_as, Rs.bd_ok]
    refine (hdig_ok hq.2 (by decide) (by decide)).bd fun d hd => ?_
    have hd1 : 0 ≤ d.1 ∧ d.1 < 7 := hd.1
    refine Yes.by (rngR_ok hd1.1 (by show d.1 ≤ _; omega)) ?_
    refine Yes.fold (fun i (st : Text × List Int) => st.1.length ≤ 12 * i ∧ partOk st.1 ∧ Tp2 st.2) ⟨Nat.le_refl _, (fun _ hc => by cases hc), hd.2⟩ (fun i x st hx hI => ?_) (fun st hI => ?_)
    · obtain ⟨i1, i2, i3⟩ := hI
      have hi := (rngL_at hx).2
      refine (hdig_ok i3 (by decide) (by decide)).bd fun e he => ?_
      refine hix (xs := someW) he.1 fun w hw => ?_
      obtain ⟨w1, w2⟩ := someW_ok w hw
      refine Yes.by (catR_ok (by show st.1.length + w.length ≤ _; omega)) ?_
      refine (hdig_ok he.2 (by decide) (by decide)).bd fun g hg => ?_
      refine hix (xs := someS) hg.1 fun v hv => ?_
      obtain ⟨v1, v2⟩ := someS_ok v hv
      refine Yes.by (catR_ok (by rw [List.length_append]; omega)) ⟨_, rfl, ?_, partOk_app (partOk_app i2 w1) v1, hg.2⟩
      show (st.1 ++ w ++ v).length ≤ _
      rw [List.length_append, List.length_append]
      omega
    · obtain ⟨i1, i2, i3⟩ := hI
      rw [rngL_len] at i1
      have i1 : st.1.length ≤ 12 * d.1.toNat := i1
      have hd2 : d.1.toNat ≤ 6 := by omega
      exact ⟨_, rfl, ⟨i2, Nat.le_trans i1 (by omega)⟩, i3⟩
theorem hparts_ok {s : List Int} (p : Bool) (h : Tp2 s) : Yes (m_law_parts s p) fun q => ptsOk q.1 ∧ Tp2 q.2 := by
  unfold m_law_parts
  simp only [Rs.bd_ok]
  refine (htext_ok p h).bd fun a ha => (htext_ok p ha.2).bd fun b hb => ?_
  refine Yes.bd (P := fun q : List Text × List Int => ptsOk q.1 ∧ Tp2 q.2) ?_ fun x hx => ⟨_, rfl, hx⟩
  refine Yes.as ((htext_ok p hb.2).bd fun c hc => ⟨_, rfl, ⟨⟨rfl, fun t ht => ?_⟩, fun t ht => ?_⟩, hc.2⟩)
  · rcases List.mem_cons.mp ht with rfl | ht
    · exact ha.1.1
    rcases List.mem_cons.mp ht with rfl | ht
    · exact hb.1.1
    rw [List.mem_singleton.mp ht]; exact hc.1.1
  · rcases List.mem_cons.mp ht with rfl | ht
    · exact ha.1.2
    rcases List.mem_cons.mp ht with rfl | ht
    · exact hb.1.2
    rw [List.mem_singleton.mp ht]; exact hc.1.2
end Lw

namespace Lw
open PySem PySem.Spec PyProof.Rows L2 PL Tp
/-! ### sorted texts -/
theorem leC_trL (a b c : Text) (h1 : (!decide (b < a)) = true) (h2 : (!decide (c < b)) = true) : (!decide (c < a)) = true := by
  simp only [Bool.not_eq_true', decide_eq_false_iff_not] at *
  exact fun z => (List.not_lt.mp h1 |> fun q => List.not_lt.mp h2 |> fun q2 => absurd z (List.not_lt.mpr (List.le_trans q q2)))
theorem leC_totL (a b : Text) : ((!decide (b < a)) || (!decide (a < b))) = true := by
  by_cases h : b < a
  · rw [decide_eq_true h, decide_eq_false fun z => List.lt_asymm h z]; rfl
  · rw [decide_eq_false h]; rfl
theorem srtC_sortedL (ts : List Text) : (srtC ts).Pairwise fun a b => (!decide (b < a)) = true := List.pairwise_mergeSort leC_trL leC_totL ts
theorem srtC_uniqL {xs ys : List Text} (p : xs.Perm ys) (hx : xs.Pairwise fun a b => (!decide (b < a)) = true) (hy : ys.Pairwise fun a b => (!decide (b < a)) = true) : xs = ys := by
  refine List.Perm.eq_of_pairwise (le := fun a b => (!decide (b < a)) = true) (fun a b _ _ h1 h2 => ?_) hx hy p
  simp only [Bool.not_eq_true', decide_eq_false_iff_not] at h1 h2
  exact List.le_antisymm (List.not_lt.mp h1) (List.not_lt.mp h2)
theorem srtC_permL {xs ys : List Text} (h : xs.Perm ys) : srtC xs = srtC ys := srtC_uniqL (((List.mergeSort_perm _ _).trans h).trans (List.mergeSort_perm _ _).symm) (srtC_sortedL xs) (srtC_sortedL ys)
end Lw

namespace Lw
open PySem PySem.Spec PyProof.Rows L2 PL Tp
/-! ### entries drawn -/
def EnOk (d : List (Text × List Text)) (g : List Text) (n : Nat) : Prop := (d.map (fun q : Text × List Text => q.1)).Nodup ∧ g.Nodup ∧ (∀ k ∈ g, dget d k = none) ∧ d.length ≤ n ∧ g.length ≤ n
theorem entries_ok {cs : List Int} (hc : ∀ c ∈ cs, Bt 1048576 c) (hl : cs.length ≤ 63) (p : Bool) {old : List Text} (ho : (∀ t ∈ old, nameOk t) ∧ old.length ≤ 12) : Yes (m_law_entries cs p old) fun q => EnOk q.1.1 q.1.2 63 ∧ (∀ t ∈ q.2, nameOk t) ∧ q.2.length ≤ 12 := by
  unfold m_law_entries
  refine Yes.fold (fun i (s : List Text × List (Text × List Text) × List Text) => EnOk s.2.1 s.1 i ∧ (∀ t ∈ s.2.2, nameOk t) ∧ s.2.2.length ≤ 12) ⟨⟨List.nodup_nil, List.nodup_nil, fun _ h => (by cases h), Nat.le_refl _, Nat.le_refl _⟩, ho⟩ (fun i c s hx hI => ?_) fun s hI => ?_
  · have hi : i < 63 := Nat.lt_of_lt_of_le (List.getElem?_eq_some_iff.mp hx).1 hl
    obtain ⟨⟨n1, n2, dj, l1, l2⟩, o1, o2⟩ := hI
    refine (htape_ok p (hc c (List.mem_of_getElem? hx))).bd fun t ht => (hdig_ok ht (by decide) (by decide)).bd fun w hw => (hname_ok hw.2 o1 (by omega) (by decide) (by decide)).bd fun q hq => ?_
    obtain ⟨q1, q2, q3⟩ := hq
    rw [Rs.bd_ok]
    have key : Yes (if (!isin q.1 s.2.2) = true then ((appR s.2.2 q.1).bd fun old_15 => Rs.ok old_15 : Rs (List Text)) else Rs.ok s.2.2) fun o => (∀ t ∈ o, nameOk t) ∧ o.length ≤ 12 := by
      by_cases hin : isin q.1 s.2.2 = true
      · rw [if_neg (by rw [hin]; exact Bool.false_ne_true)]
        exact ⟨_, rfl, o1, o2⟩
      · have hin2 : isin q.1 s.2.2 = false := by simpa using hin
        rw [if_pos (by rw [hin2]; rfl)]
        have hnm : ¬ q.1 ∈ s.2.2 := by simpa [isin] using hin
        have hlt : s.2.2.length < 12 := by
          rcases q3 with h | h
          · exact absurd h hnm
          · omega
        refine Yes.app (by omega) ⟨_, rfl, fun t ht => ?_, by rw [List.length_append]; exact hlt⟩
        rcases List.mem_append.mp ht with ht | ht
        · exact o1 t ht
        · rw [List.mem_singleton.mp ht]; exact q1
    refine key.bd fun o ho' => ?_
    rw [Rs.bd_ok]
    by_cases hk : ((!(dget s.2.1 q.1).isSome) && (!isin q.1 s.1)) = true
    · rw [if_pos hk]
      have hk1 : dget s.2.1 q.1 = none := by
        rw [Bool.and_eq_true] at hk
        simpa using hk.1
      have hk2 : ¬ q.1 ∈ s.1 := by
        rw [Bool.and_eq_true] at hk
        simpa [isin] using hk.2
      by_cases hw2 : w.1 = 2
      · rw [if_pos (decide_eq_true hw2)]
        refine Yes.as (Yes.app (by omega) ?_)
        rw [Rs.bd_ok]
        refine ⟨_, rfl, ⟨n1, ?_, fun k hm => ?_, Nat.le_succ_of_le l1, by rw [List.length_append]; show s.1.length + 1 ≤ i + 1; omega⟩, ho'⟩
        · rw [List.nodup_append]
          exact ⟨n2, List.nodup_cons.mpr ⟨fun h => (by cases h), List.nodup_nil⟩, fun a ha b hb z => hk2 (by rw [List.mem_singleton.mp hb] at z; rw [← z]; exact ha)⟩
        · rcases List.mem_append.mp hm with hm | hm
          · exact dj k hm
          · rw [List.mem_singleton.mp hm]; exact hk1
      · rw [if_neg (by rw [decide_eq_false hw2]; exact Bool.false_ne_true)]
        refine Yes.as ((hparts_ok p q2).bd fun r hr => ?_)
        rw [Rs.bd_ok]
        refine Yes.as (Yes.put (by show s.2.1.length < 16777216; omega) ?_)
        rw [Rs.bd_ok]
        refine ⟨_, rfl, ⟨dput_nd n1, n2, fun k hm => ?_, Nat.le_trans (dput_len ..) (Nat.succ_le_succ l1), Nat.le_succ_of_le l2⟩, ho'⟩
        rw [dget_dput, if_neg fun z => hk2 (by rw [z]; exact hm)]
        exact dj k hm
    · rw [if_neg hk]
      exact ⟨_, rfl, ⟨n1, n2, dj, Nat.le_succ_of_le l1, Nat.le_succ_of_le l2⟩, ho'⟩
  · obtain ⟨⟨n1, n2, dj, l1, l2⟩, o⟩ := hI
    exact ⟨_, rfl, ⟨n1, n2, dj, Nat.le_trans l1 hl, Nat.le_trans l2 hl⟩, o⟩
/-! ### what is asked of a layer -/
structure Rt (ly : OLayer) (d : List (Text × List Text)) (g : List Text) : Prop where
  n1 : (ly.standing.map (fun q : Text × List Text => q.1)).Nodup
  n2 : (d.map (fun q : Text × List Text => q.1)).Nodup
  eq : ∀ k, dget ly.standing k = dget d k
  gn : ly.gone_names = srtC g
  sz : szL ly ≤ 1000
theorem dEq_of {α : Type} [DecidableEq α] {a b : List (Text × α)} (na : (a.map (·.1)).Nodup) (nb : (b.map (·.1)).Nodup) (h : ∀ k, dget a k = dget b k) : dEq a b = true := by
  have hp : List.Perm (a.map (·.1)) (b.map (·.1)) := (List.perm_ext_iff_of_nodup na nb).mpr fun k => by rw [key_iff, key_iff, h]
  have hl := hp.length_eq
  rw [List.length_map, List.length_map] at hl
  unfold dEq
  rw [hl, beq_self_eq_true, Bool.true_and, List.all_eq_true]
  exact fun q hq => decide_eq_true (by rw [← h, dget_of_mem na hq])
theorem right_ok {ly : OLayer} {d : List (Text × List Text)} {g : List Text} (R : Rt ly d g) : m_law_right ly d g = .ok true := by
  have hz := R.sz
  have hsz : ly.standing.length + ly.gone_names.length ≤ 1000 := hz
  have hp : List.Perm (ly.standing.map (fun q : Text × List Text => q.1)) (d.map (fun q : Text × List Text => q.1)) := (List.perm_ext_iff_of_nodup R.n1 R.n2).mpr fun k => by rw [key_iff, key_iff, R.eq]
  have hgl : g.length ≤ 1000 := by have := congrArg List.length R.gn; rw [srtC_len] at this; omega
  have hdl : d.length ≤ 1000 := by have := hp.length_eq; rw [List.length_map, List.length_map] at this; omega
  have e1 : m_Layer_names ly = .ok (srtC (d.map (fun q : Text × List Text => q.1) ++ g)) := by
    rw [lynames_ok (by omega)]
    congr 1
    refine srtC_permL (List.Perm.append hp ?_)
    rw [R.gn]
    exact List.mergeSort_perm _ _
  have e3 : catR (d.map (·.1)) g = .ok (d.map (fun q : Text × List Text => q.1) ++ g) := catR_ok (by rw [List.length_map]; omega)
  unfold m_law_right
  obtain ⟨z, h1, h2⟩ : Yes ((rngR (2 : Int)).bd fun xs_4 => (forX (S := Unit) (ζ := Bool) (fun (s5 : Unit) (x6 : Int) => (m_Layer_names ly).bd fun names_8 => (m_Layer_gone ly).bd fun left_10 => (m_Layer_texts ly).bd fun told_11 => ((catR (d.map (·.1)) g).bd fun v_13 => Rs.ok (!decide (names_8 = (srtC v_13)))).bd fun k_15 =>
      if k_15 = true then Rs.ok (Stp.ret false) else (Rs.ok ((!true) || ((!decide (left_10 = (srtC g))) || ((!true) || (!dEq told_11 d))))).bd fun k_16 =>
      if k_16 = true then Rs.ok (Stp.ret false) else (appR names_8 (tx "zz")).bd fun names_17 => (appR left_10 (tx "zz")).bd fun left_19 => Rs.ok (.nxt ())) () xs_4).bd (Stp.fin (fun s5 => Rs.ok true) (fun z => z))) fun b => b = true := by
    refine Yes.rng (by decide) (by decide) (Yes.forX (fun _ _ => True) trivial (fun i x s hx _ => ?_) fun s _ => ⟨_, rfl, rfl⟩)
    refine ⟨.nxt (), ?_, (), rfl, trivial⟩
    rw [e1, Rs.bd_ok]
    show (((catR (d.map (·.1)) g).bd _).bd _) = _
    rw [e3, Rs.bd_ok, Rs.bd_ok, decide_eq_true rfl]
    rw [if_neg (by decide), Rs.bd_ok, R.gn, decide_eq_true rfl, dEq_of R.n1 R.n2 R.eq, if_neg (by decide)]
    rw [appR_ok (by rw [srtC_len, List.length_append, List.length_map]; omega), Rs.bd_ok, appR_ok (by rw [srtC_len]; omega), Rs.bd_ok]
  exact (by
    rw [h2] at h1
    exact h1)
/-! ### the law -/
def es31 : List (Text × Text × Int) := [(tx "s", tx "", (2 : Int))]
def sl31 : List Text := [tx "the"]
theorem es31_ok : goodE es31 := ⟨by decide +kernel, by decide +kernel, by decide⟩
theorem sl31_ok : goodS sl31 := ⟨by decide +kernel, by decide +kernel, by decide⟩
theorem rb31 : m_RB [(tx "s", tx "", (2 : Int))] [tx "the"] = .ok (mkRB es31 sl31) := Rs.gd_pos ⟨es31_ok, sl31_ok⟩
theorem layer31 {rb : RB} {d : List (Text × List Text)} {g : List Text} {n : Nat} (h : EnOk d g n) (hn : n ≤ 63) : m_law_layer rb d g = .ok (some ⟨rb, d, srtC g⟩) := by
  unfold m_law_layer
  rw [layer_ok, Rs.bd_ok]
  rw [show (dEq (d, g).1 (d, g).1 && decide ((d, g).2 = (d, g).2)) = true by rw [decide_eq_true rfl, Bool.and_true]; exact dEq_of h.1 h.1 fun _ => rfl]
  rw [Rs.bd_ok, if_neg (by decide), Rs.bd_ok, appR_ok (by have := h.2.2.2.2; omega), Rs.bd_ok]
theorem ly31 {rb : RB} {d : List (Text × List Text)} {g : List Text} {n : Nat} (h : EnOk d g n) (hn : n ≤ 63) : LyOk rb ⟨rb, d, srtC g⟩ ∧ Rt ⟨rb, d, srtC g⟩ d g ∧ szL ⟨rb, d, srtC g⟩ ≤ 2 * n := by
  have hz : szL ⟨rb, d, srtC g⟩ ≤ 2 * n := by
    unfold szL
    rw [srtC_len]
    have := h.2.2.2.1
    have := h.2.2.2.2
    show d.length + g.length ≤ _
    omega
  exact ⟨⟨rfl, h.1, (List.Perm.nodup_iff (List.mergeSort_perm _ _)).mpr h.2.1, fun k hk => h.2.2.1 k (srtC_mem.mp hk)⟩, ⟨h.1, h.1, fun _ => rfl, rfl, by omega⟩, hz⟩
theorem low31 {ly : OLayer} {d : List (Text × List Text)} {g : List Text} (R : Rt ly d g) : Rt (lowP ly) d [] := ⟨R.n1, R.n2, R.eq, srtC_nil.symm, Nat.le_trans (low_sz ly) R.sz⟩
theorem due31 {l : List Text} {d0 : List (Text × List Text)} (hn : (d0.map (fun q : Text × List Text => q.1)).Nodup) (hl : d0.length ≤ 1000) : Yes (foldR (S := List (Text × List Text)) (fun (s15 : List (Text × List Text)) (x16 : Text) => if (!isin x16 l) = true then (dgetR d0 x16).bd fun v_19 => (Rs.ok x16).bd fun k_20 => (putR s15 k_20 v_19).bd fun due_18 => Rs.ok due_18 else Rs.ok s15) [] (d0.map (fun q : Text × List Text => q.1))) fun s =>
    (s.map (fun q : Text × List Text => q.1)).Nodup ∧ s.length ≤ d0.length ∧ ∀ k, dget s k = if k ∈ l then none else dget d0 k := by
  have key := Yes.fold (h := fun (s15 : List (Text × List Text)) (x16 : Text) => if (!isin x16 l) = true then (dgetR d0 x16).bd fun v_19 => (Rs.ok x16).bd fun k_20 => (putR s15 k_20 v_19).bd fun due_18 => Rs.ok due_18 else Rs.ok s15) (xs := d0.map (fun q : Text × List Text => q.1)) (s0 := []) (g := fun s => Rs.ok s)
    (Q := fun s => (s.map (fun q : Text × List Text => q.1)).Nodup ∧ s.length ≤ d0.length ∧ ∀ k, dget s k = if k ∈ l then none else dget d0 k)
    (fun i s => (s.map (fun q : Text × List Text => q.1)).Nodup ∧ s.length ≤ i ∧ ∀ k, dget s k = if k ∈ l then none else if k ∈ (d0.map (fun q : Text × List Text => q.1)).take i then dget d0 k else none)
    ⟨List.nodup_nil, Nat.le_refl _, fun k => by simp [dget]⟩ (fun i x s hx hI => ?_) fun s hI => ⟨_, rfl, hI.1, by have := hI.2.1; rw [List.length_map] at this; exact this, fun k => ?_⟩
  · obtain ⟨s, e1, e2⟩ := key
    obtain ⟨s', e3, e4⟩ := Rs.bd_inv e1
    cases e4
    exact ⟨s, e3, e2⟩
  · obtain ⟨i1, i2, i3⟩ := hI
    have hi := (List.getElem?_eq_some_iff.mp hx).1
    rw [List.length_map] at hi
    have htk : ∀ k, k ∈ (d0.map (fun q : Text × List Text => q.1)).take (i + 1) ↔ k ∈ (d0.map (fun q : Text × List Text => q.1)).take i ∨ k = x := fun k => by
      rw [List.take_add_one, hx]
      simp
    by_cases hin : isin x l = true
    · have hm : x ∈ l := by simpa [isin] using hin
      rw [if_neg (by rw [hin]; exact Bool.false_ne_true)]
      refine ⟨_, rfl, i1, Nat.le_succ_of_le i2, fun k => ?_⟩
      rw [i3]
      by_cases hk : k ∈ l
      · rw [if_pos hk, if_pos hk]
      · rw [if_neg hk, if_neg hk]
        by_cases h2 : k ∈ (d0.map (fun q : Text × List Text => q.1)).take i
        · rw [if_pos h2, if_pos ((htk k).mpr (.inl h2))]
        · rw [if_neg h2, if_neg fun z => ((htk k).mp z).elim h2 fun z => hk (by rw [z]; exact hm)]
    · have hm : ¬ x ∈ l := by simpa [isin] using hin
      have hin2 : isin x l = false := by simpa using hin
      rw [if_pos (by rw [hin2]; rfl)]
      obtain ⟨v, hv⟩ := Option.isSome_iff_exists.mp (Option.isSome_iff_ne_none.mpr (key_iff.mp (List.mem_of_getElem? hx)))
      rw [dgetR_of hv, Rs.bd_ok, Rs.bd_ok]
      refine Yes.put (by omega) ⟨_, rfl, dput_nd i1, Nat.le_trans (dput_len ..) (Nat.succ_le_succ i2), fun k => ?_⟩
      rw [dget_dput]
      by_cases hk : x = k
      · subst hk
        rw [if_pos rfl, if_neg hm, if_pos ((htk x).mpr (.inr rfl)), hv]
      · rw [if_neg hk, i3]
        by_cases hkl : k ∈ l
        · rw [if_pos hkl, if_pos hkl]
        · rw [if_neg hkl, if_neg hkl]
          by_cases h2 : k ∈ (d0.map (fun q : Text × List Text => q.1)).take i
          · rw [if_pos h2, if_pos ((htk k).mpr (.inl h2))]
          · rw [if_neg h2, if_neg fun z => ((htk k).mp z).elim h2 fun z => hk z.symm]
  · rw [hI.2.2, List.take_length]
    by_cases hk : k ∈ l
    · rw [if_pos hk, if_pos hk]
    · rw [if_neg hk, if_neg hk]
      by_cases h2 : k ∈ d0.map (fun q : Text × List Text => q.1)
      · rw [if_pos h2]
      · rw [if_neg h2, dget_none_of h2]
theorem upd31 {a b : List (Text × List Text)} (h : a.length + b.length ≤ 1000000) : updR a b = .ok (dupd a b) := Rs.gd_pos (by omega)
theorem lost31 {g0 g1 : List Text} {d1 : List (Text × List Text)} (h0 : g0.length ≤ 100) (h1 : g1.length ≤ 100) : ((lcR (fun (x23 : Text) => Rs.ok ((!(dget d1 x23).isSome) && (!isin x23 g1))) (fun (x23 : Text) => Rs.ok x23) g0).bd fun v_24 => catR v_24 g1) = .ok (g0.filter (fun x => (!(dget d1 x).isSome) && (!isin x g1)) ++ g1) := by
  have e : lcR (fun (x23 : Text) => Rs.ok ((!(dget d1 x23).isSome) && (!isin x23 g1))) (fun (x23 : Text) => Rs.ok x23) g0 = .ok ((g0.filter (fun x => (!(dget d1 x).isSome) && (!isin x g1))).map fun x => x) := lcR_ok (fun _ _ => rfl) (fun _ _ _ => rfl)
  rw [e, Rs.bd_ok, List.map_id', catR_ok (by have := List.length_filter_le (fun x => (!(dget d1 x).isSome) && (!isin x g1)) g0; omega)]
theorem pick_le {ns : List Int} {a b c : Option Int} (hl : ns.length ≤ 63) : (pickL ns a b c).length ≤ 63 := Nat.le_trans (pickL_len ..) hl
theorem law_yes (ns : List Int) (hl : ns.length ≤ 63) (hb : ∀ i ∈ ns, Bt 1048576 i) : Yes (m_law ns) fun z => z = true := by
  unfold m_law
  refine Yes.as ((hnth_ok (by decide) hb).bd fun c _ => ?_)
  rw [Rs.bd_ok]
  generalize decide (c % 2 = 1) = p
  refine (entries_ok (fun c hc => hb c (pickL_mem hc)) (pick_le hl) p ⟨fun _ h => (by cases h), by decide⟩).bd fun q hq => (entries_ok (fun c hc => hb c (pickL_mem hc)) (pick_le hl) p hq.2).bd fun r hr => ?_
  obtain ⟨⟨⟨d0, g0⟩, o1⟩, h0⟩ : ∃ q', q' = q := ⟨q, rfl⟩
  obtain ⟨⟨⟨d1, g1⟩, o2⟩, h1⟩ : ∃ q', q' = r := ⟨r, rfl⟩
  subst h0 h1
  replace hq : EnOk d0 g0 63 := hq.1
  replace hr : EnOk d1 g1 63 := hr.1
  dsimp only
  rw [rb31, Rs.bd_ok, layer31 hq (Nat.le_refl _), Rs.bd_ok, layer31 hr (Nat.le_refl _), Rs.bd_ok]
  generalize mkRB es31 sl31 = rb
  obtain ⟨L0, R0, z0⟩ := ly31 (rb := rb) hq (Nat.le_refl _)
  obtain ⟨L1, R1, z1⟩ := ly31 (rb := rb) hr (Nat.le_refl _)
  obtain ⟨a0, b0, c0, l0, m0⟩ := id hq
  obtain ⟨a1, b1, c1, l1, m1⟩ := id hr
  generalize hlo : (⟨rb, d0, srtC g0⟩ : OLayer) = lo at L0 R0 z0 ⊢
  generalize hup : (⟨rb, d1, srtC g1⟩ : OLayer) = up at L1 R1 z1 ⊢
  have eo1 : optR (some lo) = .ok lo := rfl
  have eo2 : optR (some up) = .ok up := rfl
  rw [if_neg (show ¬ ((some lo).isNone || (some up).isNone) = true from Bool.false_ne_true), eo1, eo2]
  refine (due31 (l := g1) a0 (by omega)).bd fun s hs => ?_
  obtain ⟨s1, s2, s3⟩ := hs
  rw [Rs.bd_ok, upd31 (by omega), Rs.bd_ok, lost31 (by omega) (by omega), Rs.bd_ok]
  have gl : lo.gone_names = srtC g0 := by rw [← hlo]
  have gu : up.gone_names = srtC g1 := by rw [← hup]
  have tl : lo.standing = d0 := by rw [← hlo]
  have tu : up.standing = d1 := by rw [← hup]
  have zp := pour_sz lo up
  have hdj : ∀ k, k ∈ g1 → dget d1 k = none := c1
  have RB : Rt (pourP lo up) (dupd s d1) (g0.filter (fun x => (!(dget d1 x).isSome) && (!isin x g1)) ++ g1) := by
    refine ⟨(pour_LyOk L0 L1).nd1, nd_dupd s1, fun k => ?_, ?_, by omega⟩
    · show dget (pourT lo up) k = _
      rw [pourT_get lo L1, dget_dupd _ _ _ a1, tu, gu, tl, s3]
      by_cases hk : k ∈ g1
      · rw [if_pos hk, if_pos (srtC_mem.mpr hk)]
      · rw [if_neg hk, if_neg fun z => hk (srtC_mem.mp z)]
    · show srtC ((pourG lo up).map (·.1)) = _
      have pnd : ((pourG lo up).map (fun q : Text × Bool => q.1)).Nodup := nd_delQ (nd_putT (nd_putT (g := ([] : List (Text × Bool))) List.nodup_nil))
      refine srtC_permL ((List.perm_ext_iff_of_nodup pnd ?_).mpr fun k => ?_)
      · rw [List.nodup_append]
        refine ⟨b0.filter _, b1, fun a ha b hb z => ?_⟩
        have := (List.mem_filter.mp ha).2
        rw [Bool.and_eq_true] at this
        have h2 : ¬ a ∈ g1 := by simpa [isin] using this.2
        exact h2 (z ▸ hb)
      · rw [pourG_mem, tu, gu, gl, srtC_mem, srtC_mem, List.mem_append, List.mem_filter, Bool.and_eq_true]
        constructor
        · rintro ⟨e1, e2⟩
          by_cases hk : k ∈ g1
          · exact .inr hk
          · exact .inl ⟨e2.resolve_left hk, by rw [e1]; rfl, by simpa [isin] using hk⟩
        · rintro (⟨e1, e2, e3⟩ | e1)
          · exact ⟨by simpa using e2, .inr e1⟩
          · exact ⟨c1 k e1, .inl e1⟩
  rw [Rs.bd_ok, Rs.bd_ok, poured_ok (by omega), Rs.bd_ok]
  rw [Rs.bd_ok, if_neg (by decide), right_ok RB, Rs.bd_ok, Rs.bd_ok, if_neg (by decide)]
  rw [lowest_ok, Rs.bd_ok, right_ok (low31 RB), Rs.bd_ok, Rs.bd_ok, if_neg (by decide)]
  rw [Rs.bd_ok, lowest_ok, Rs.bd_ok, right_ok (low31 R1), Rs.bd_ok, Rs.bd_ok, if_neg (by decide), Rs.bd_ok, Rs.bd_ok, upd31 (by omega), Rs.bd_ok]
  have R2 : Rt (pourP (lowP lo) (lowP up)) (dupd d0 d1) [] := by
    have zq := pour_sz (lowP lo) (lowP up)
    have zl := low_sz lo
    have zu := low_sz up
    refine ⟨(pour_LyOk (low_LyOk L0) (low_LyOk L1)).nd1, nd_dupd a0, fun k => ?_, ?_, by omega⟩
    · show dget (pourT (lowP lo) (lowP up)) k = _
      rw [pourT_get (lowP lo) (low_LyOk L1), dget_dupd _ _ _ a1]
      show (dget up.standing k).or (if k ∈ ([] : List Text) then none else dget lo.standing k) = _
      rw [tu, tl, if_neg fun z => by cases z]
    · show srtC ((pourG (lowP lo) (lowP up)).map (·.1)) = srtC []
      congr 1
      refine List.eq_nil_iff_forall_not_mem.mpr fun k hk => ?_
      obtain ⟨_, h | h⟩ := (pourG_mem (lowP lo) (lowP up) k).mp hk
      · exact absurd h fun z => by cases z
      · exact absurd h fun z => by cases z
  rw [Rs.bd_ok, lowest_ok, Rs.bd_ok, Rs.bd_ok, lowest_ok, Rs.bd_ok, poured_ok (by have := low_sz lo; have := low_sz up; omega), Rs.bd_ok, right_ok R2, Rs.bd_ok, Rs.bd_ok, if_neg (by decide)]
  rw [Rs.bd_ok, right_ok R0, Rs.bd_ok, Rs.bd_ok, if_pos rfl, Rs.bd_ok, right_ok R1, Rs.bd_ok, Rs.bd_ok, if_pos rfl]
  exact ⟨_, rfl, rfl⟩
theorem law_holds (ns : List Int) (hl : ns.length ≤ 63) (hb : ∀ i ∈ ns, Bt 1048576 i) : m_law ns = .ok true := by
  obtain ⟨z, h1, h2⟩ := law_yes ns hl hb
  rw [h1, h2]
end Lw

open PySem PySem.W PySem.Calls PyProof.Rows
theorem PySem.Challenge.cw_shownranks_k31_layers_poured_holds : PySem.Challenge.rw_shownranks_k31_layers_poured.Holds := by
  w_on; o_law
  refine HandSHeadRun.head_any (r := OpenLaw.row PySem.Challenge.rw_shownranks_k31_layers_poured) (q := view (OpenLaw.row PySem.Challenge.rw_shownranks_k31_layers_poured).prog [27]) (H := Tp.hk) (ob := Tp.ob) (M := 12000) (loose := Tp.nms)
    (d := HandSHeadRun.topDef (OpenLaw.row PySem.Challenge.rw_shownranks_k31_layers_poured).prog 27) (kwd := []) Tp.ob_eq (by kernel_rfl) (fun s => by kernel_rfl) Tp.run (by kernel_rfl) (by kernel_rfl)
    (by kernel_rfl) (by rfl) (by first | assumption | decide +kernel) (by decide +kernel) ⟨rfl, rfl, rfl, rfl, rfl, by decide +kernel⟩ ?hw ?hc
  case hw => w_witness2
  case hc =>
    refine PL.walk_EB (l := PySem.Challenge.rw_shownranks_k31_layers_poured) (n := 63) (k := Lw.lvl) (x := "_law_script") (CX := L2.CX0) rfl (by decide) (by kernel_rfl) ⟨rfl, by decide, by decide⟩ ?F (fun _ _ _ _ z => z)
    intro w mg fa h Y G hmg0
    obtain ⟨K, KX, c, cx⟩ := Y
    have hmg : mg ("law" : PySem.Str) = some (.ref fa) := by
      have e : (HandSHeadRun.topDef (OpenLaw.row PySem.Challenge.rw_shownranks_k31_layers_poured).prog 27).name = ("law" : PySem.Str) := by kernel_rfl
      rw [← e]
      exact hmg0
    have T : Tp.Tx K mg := ⟨c, cx, h, KX, G⟩
    obtain ⟨fd, F⟩ := T.f_law
    have e := hmg.symm.trans T.g_law
    cases e
    have b := L2.FunD.bindsA (ps := ["_law_script"]) F fun _ _ _ _ _ _ us hl => match us, hl with | [_], _ => rfl
    exact ⟨K, fd, PL.spG (PL.M1 (PL.rL K PL.rI) PL.rB Lw.m_law), KX, fun s v => b s [v] rfl, fun H a ns hl hb hS => PL.law_spM hl hS (Lw.law_holds ns hl fun i hi => PL.bt_of (hb i hi)), fun base _ _ => Lw.fn_law T F⟩
