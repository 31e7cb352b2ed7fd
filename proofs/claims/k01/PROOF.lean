import PyProof.Rows.All
import Wide.All
import OpenK.AllK
import Wide.FinOn
import HandS.ForMost
import HandS.ForExc
import HandS.Wide
import HandS.Star
import HandS.FStr
import HandS.IsInst
import HandS.Deep
import HandS.TryMany
import HandS.ExcInit
import HandS.ExcField
import HandS.ExcIs
import HandS.Flow
import HandS.Style
import HandS.TupAny
import HandS.Defaults
import HandS.Ends
import HandS.EndBits
import HandS.CallSlots
import KE.KExcSuper
import PySem.Challenge.RW_strawbench_k01_ratios_and_names
set_option Elab.async false
set_option linter.all false
set_option maxRecDepth 100000
set_option maxHeartbeats 4000000
/-! DL1: data by value, the frozen part of a heap, slots, growth. -/
namespace DL
open PySem PySem.Spec L2

/-- data, by value. own: a list that one slot alone holds; bag: the law's drawing bag; scr: the script; ins: an instance of a class of the text; exc: a caught exception -/
inductive D where
  | non | bl (b : Bool) | int (i : Int) | str (x : Str)
  | tup (xs : List D) | lst (xs : List D) | own (xs : List D)
  | bag
  | scr (ns : List Int)
  | ins (c : Str) (fs : List D)
  | exc (a C dx : Addr) (c : Str) (fs : List D)

/-- what is fixed: the written part, the classes by name, their attributes in order -/
structure Cw where
  K : PySem.W.Frag
  cls : Str → Option Addr
  flds : Str → List Str

/-- the root: where the bag is -/
structure Rt where
  bag : Option Addr
structure RtLe (r r' : Rt) : Prop where
  bag : ∀ a, r.bag = some a → r'.bag = some a
theorem RtLe.refl (r : Rt) : RtLe r r := ⟨fun _ h => h⟩
theorem RtLe.trans {r r1 r2 : Rt} (a : RtLe r r1) (b : RtLe r1 r2) : RtLe r r2 := ⟨fun c h => b.bag c (a.bag c h)⟩

mutual
inductive DAt (G : Cw) (r : Rt) (S : Hp) : V → D → Prop
  | non : DAt G r S .non .non
  | bl (k : Bool) : DAt G r S (.bl k) (.bl k)
  | int (i : Int) : DAt G r S (.int i) (.int i)
  | str (x : Str) : DAt G r S (.str x) (.str x)
  | tup {a : Addr} {vs : List V} {ds : List D} : SqT G.K S a vs → vs.length ≤ sizeLine → DAts G r S vs ds → DAt G r S (.ref a) (.tup ds)
  | lst {a : Addr} {vs : List V} {ds : List D} : S a = some (.lst vs) → vs.length ≤ sizeLine → DAts G r S vs ds → DAt G r S (.ref a) (.lst ds)
  | bag {a : Addr} : r.bag = some a → DAt G r S (.ref a) .bag
  | scr {a : Addr} {ns : List Int} : SqL G.K S a (ns.map V.int) → DAt G r S (.ref a) (.scr ns)
  | ins {a C dx : Addr} {c : Str} {vs : List V} {ds : List D} : G.cls c = some C → S a = some (.ins C dx ((G.flds c).zip vs)) → (G.flds c).length = vs.length → DAts G r S vs ds → DAt G r S (.ref a) (.ins c ds)
  | exc {a C dx : Addr} {c : Str} {vs : List V} {ds : List D} : G.cls c = some C → S dx = some (.xd ((G.flds c).zip vs)) → (G.flds c).length = vs.length → DAts G r S vs ds → DAt G r S (.ref a) (.exc a C dx c ds)
inductive DAts (G : Cw) (r : Rt) (S : Hp) : List V → List D → Prop
  | nil : DAts G r S [] []
  | cons {v : V} {vs : List V} {d : D} {ds : List D} : DAt G r S v d → DAts G r S vs ds → DAts G r S (v :: vs) (d :: ds)
end

theorem sqT_same {K : PySem.W.Frag} {S S' : Hp} {a : Addr} {xs : List V} (e : Same S S') (h : SqT K S a xs) : SqT K S' a xs := by
  rcases h with (h | ⟨o, h⟩) | h
  · exact .inl (.inl (e _ _ h))
  · exact .inl (.inr ⟨o, e _ _ h⟩)
  · exact .inr h

section
variable {G : Cw} {r r' : Rt} {S S' : Hp}
mutual
theorem DAt.mono (e : Same S S') (er : RtLe r r') : ∀ {v : V} {d : D}, DAt G r S v d → DAt G r' S' v d
  | _, _, .non => .non
  | _, _, .bl k => .bl k
  | _, _, .int i => .int i
  | _, _, .str x => .str x
  | _, _, .tup h l a => .tup (sqT_same e h) l (DAts.mono e er a)
  | _, _, .lst h l a => .lst (e _ _ h) l (DAts.mono e er a)
  | _, _, .bag h => .bag (er.bag _ h)
  | _, _, .scr h => .scr (e.seq h)
  | _, _, .ins h1 h2 h3 a => .ins h1 (e _ _ h2) h3 (DAts.mono e er a)
  | _, _, .exc h1 h2 h3 a => .exc h1 (e _ _ h2) h3 (DAts.mono e er a)
theorem DAts.mono (e : Same S S') (er : RtLe r r') : ∀ {vs : List V} {ds : List D}, DAts G r S vs ds → DAts G r' S' vs ds
  | _, _, .nil => .nil
  | _, _, .cons h t => .cons (DAt.mono e er h) (DAts.mono e er t)
end
theorem DAts.length : ∀ {vs : List V} {ds : List D}, DAts G r S vs ds → vs.length = ds.length
  | _, _, .nil => rfl
  | _, _, .cons _ t => congrArg (· + 1) t.length
theorem DAts.append : ∀ {vs ws : List V} {ds es : List D}, DAts G r S vs ds → DAts G r S ws es → DAts G r S (vs ++ ws) (ds ++ es)
  | _, _, _, _, .nil, b => b
  | _, _, _, _, .cons h t, b => .cons h (t.append b)
theorem DAts.get : ∀ {vs : List V} {ds : List D} {i : Nat} {d : D}, DAts G r S vs ds → ds[i]? = some d → ∃ v, vs[i]? = some v ∧ DAt G r S v d
  | _, _, i, _, .nil, e => by simp at e
  | _, _, 0, _, .cons h _, e => by simp at e; subst e; exact ⟨_, rfl, h⟩
  | _, _, i + 1, d, .cons _ t, e => by
    obtain ⟨v, h1, h2⟩ := DAts.get (i := i) (d := d) t (by simpa using e)
    exact ⟨v, by simpa using h1, h2⟩
theorem DAts.getV : ∀ {vs : List V} {ds : List D} {i : Nat} {v : V}, DAts G r S vs ds → vs[i]? = some v → ∃ d, ds[i]? = some d ∧ DAt G r S v d
  | _, _, i, _, .nil, e => by simp at e
  | _, _, 0, _, .cons h _, e => by simp at e; subst e; exact ⟨_, rfl, h⟩
  | _, _, i + 1, d, .cons _ t, e => by
    obtain ⟨v, h1, h2⟩ := DAts.getV (i := i) (v := d) t (by simpa using e)
    exact ⟨v, by simpa using h1, h2⟩
theorem DAts.take : ∀ {vs : List V} {ds : List D} (n : Nat), DAts G r S vs ds → DAts G r S (vs.take n) (ds.take n)
  | _, _, 0, _ => by simp; exact .nil
  | _, _, _ + 1, .nil => .nil
  | _, _, n + 1, .cons h t => .cons h (t.take n)
theorem DAts.drop : ∀ {vs : List V} {ds : List D} (n : Nat), DAts G r S vs ds → DAts G r S (vs.drop n) (ds.drop n)
  | _, _, 0, h => h
  | _, _, _ + 1, .nil => .nil
  | _, _, n + 1, .cons _ t => t.drop n
theorem DAts.eraseIdx : ∀ {vs : List V} {ds : List D} (i : Nat), DAts G r S vs ds → DAts G r S (vs.eraseIdx i) (ds.eraseIdx i)
  | _, _, _, .nil => .nil
  | _, _, 0, .cons _ t => t
  | _, _, i + 1, .cons h t => .cons h (t.eraseIdx i)
theorem DAts.set {v : V} {d : D} (h : DAt G r S v d) : ∀ {vs : List V} {ds : List D} (i : Nat), DAts G r S vs ds → DAts G r S (vs.set i v) (ds.set i d)
  | _, _, _, .nil => .nil
  | _, _, 0, .cons _ t => .cons h t
  | _, _, i + 1, .cons q t => .cons q (DAts.set h i t)
theorem DAts.reverse : ∀ {vs : List V} {ds : List D}, DAts G r S vs ds → DAts G r S vs.reverse ds.reverse
  | _, _, .nil => .nil
  | _, _, .cons h t => by
    rw [List.reverse_cons, List.reverse_cons]
    exact t.reverse.append (.cons h .nil)
end

/-! ### a def's frame: the heap, its frozen part and the roots at the entry -/
structure Frm where
  H : Hp
  S : Hp
  r : Rt
/-- the bag: its five entries -/
def bagKvs (c : Addr) (at' rest mixed count : Int) : List (Key × V) :=
  [(.inr "cells", .ref c), (.inr "at", .int at'), (.inr "rest", .int rest), (.inr "mixed", .int mixed), (.inr "count", .int count)]
def big (z : Int) : Prop := z.natAbs < 2 ^ 1048577
structure BagAt (G : Cw) (S H : Hp) (a : Addr) : Prop where
  free : S a = none
  ex : ∃ (c : Addr) (ns : List Int) (at' rest mixed count : Int), H a = some (.dK (bagKvs c at' rest mixed count)) ∧ S c = some (.lst (ns.map V.int)) ∧
    (∀ z ∈ ns, big z) ∧ ns.length ≤ 1000 ∧ 0 ≤ at' ∧ 0 ≤ rest ∧ big rest ∧ 0 ≤ mixed ∧ mixed < 1000003
/-- the state fits the frame F: S is the frozen part of H, all that stood at the entry stands (but the bag) -/
structure Good (G : Cw) (F : Frm) (r : Rt) (S H : Hp) : Prop where
  sub : Same S H
  keep : ∀ a o, F.H a = some o → F.r.bag ≠ some a → H a = some o
  frz : ∀ a o, F.H a = some o → S a = F.S a
  ext : Same F.S S
  bag : ∀ a, r.bag = some a → BagAt G S H a
  rb : ∀ a, r.bag = some a → F.r.bag = some a ∨ F.H a = none
  rF : ∀ a, F.r.bag = some a → r.bag = some a
structure Ext (r : Rt) (S : Hp) (r' : Rt) (S' : Hp) : Prop where
  s : Same S S'
  r : RtLe r r'
theorem Ext.refl (r : Rt) (S : Hp) : Ext r S r S := ⟨.refl _, .refl _⟩
theorem Ext.trans {r r1 r2 : Rt} {S S1 S2 : Hp} (a : Ext r S r1 S1) (b : Ext r1 S1 r2 S2) : Ext r S r2 S2 := ⟨a.s.trans b.s, a.r.trans b.r⟩
theorem DAt.ext {G : Cw} {r r' : Rt} {S S' : Hp} {v : V} {d : D} (h : DAt G r S v d) (e : Ext r S r' S') : DAt G r' S' v d := h.mono e.s e.r
theorem DAts.ext {G : Cw} {r r' : Rt} {S S' : Hp} {vs : List V} {ds : List D} (h : DAts G r S vs ds) (e : Ext r S r' S') : DAts G r' S' vs ds := h.mono e.s e.r
/-- a pure step: objects are added, some of them frozen -/
structure Gro (S H S' H' : Hp) : Prop where
  h : Same H H'
  s : Same S S'
  old : ∀ a, H a ≠ none → S' a = S a
  sub : Same S' H'
theorem Gro.refl {S H : Hp} (sub : Same S H) : Gro S H S H := ⟨.refl _, .refl _, fun _ _ => rfl, sub⟩
theorem Gro.trans {S H S1 H1 S2 H2 : Hp} (a : Gro S H S1 H1) (b : Gro S1 H1 S2 H2) : Gro S H S2 H2 :=
  ⟨a.h.trans b.h, a.s.trans b.s, fun c hc => by
    have h1 : H1 c ≠ none := fun z => by
      cases e : H c with
      | none => exact hc e
      | some o => rw [a.h c o e] at z; cases z
    rw [b.old c h1, a.old c hc], b.sub⟩
theorem Gro.ext {S H S' H' : Hp} (g : Gro S H S' H') (r : Rt) : Ext r S r S' := ⟨g.s, .refl _⟩
/-- one new object, frozen at once -/
theorem Gro.new {S H : Hp} {p : Addr} {o : HO} (sub : Same S H) (hp : H p = none) : Gro S H (upd S p o) (upd H p o) := by
  refine ⟨fun a u e => ?_, fun a u e => ?_, fun a ha => ?_, fun a u e => ?_⟩
  · rw [upd_ne (ne_of_none e hp)]; exact e
  · rw [upd_ne (ne_of_none (sub _ _ e) hp)]; exact e
  · exact upd_ne fun z => ha (z ▸ hp)
  · by_cases z : a = p
    · subst z; rw [upd_same] at e ⊢; exact e
    · rw [upd_ne z] at e ⊢; exact sub _ _ e
/-- one new object that is not frozen -/
theorem Gro.loose {S H : Hp} {p : Addr} {o : HO} (sub : Same S H) (hp : H p = none) : Gro S H S (upd H p o) := by
  refine ⟨fun a u e => ?_, .refl _, fun a ha => rfl, fun a u e => ?_⟩
  · rw [upd_ne (ne_of_none e hp)]; exact e
  · rw [upd_ne (ne_of_none (sub _ _ e) hp)]; exact sub _ _ e
section
variable {G : Cw} {F : Frm} {r : Rt} {S H S' H' : Hp}
theorem BagAt.gro {a : Addr} (b : BagAt G S H a) (g : Gro S H S' H') : BagAt G S' H' a := by
  obtain ⟨f, c, ns, x1, x2, x3, x4, e, l, q⟩ := b
  exact ⟨by rw [g.old a (by rw [e]; simp)]; exact f, c, ns, x1, x2, x3, x4, g.h _ _ e, g.s _ _ l, q⟩
theorem Good.gro (k : Good G F r S H) (g : Gro S H S' H') : Good G F r S' H' where
  sub := g.sub
  keep := fun a o e n => g.h _ _ (k.keep a o e n)
  frz := fun a o e => by
    rw [g.old a ?_, k.frz a o e]
    by_cases hb : F.r.bag = some a
    · obtain ⟨_, _, _, _, _, _, _, q, _⟩ := k.bag a (k.rF a hb)
      rw [q]; simp
    · rw [k.keep a o e hb]; simp
  ext := k.ext.trans g.s
  bag := fun a e => (k.bag a e).gro g
  rb := k.rb
  rF := k.rF
end

/-! ### slots -/
abbrev Sd := List (Option D)
def gd : Sd → Nat → Option D
  | [], _ => none
  | x :: _, 0 => x
  | _ :: s, i + 1 => gd s i
def sd : Sd → Nat → Option D → Sd
  | [], _, _ => []
  | _ :: s, 0, y => y :: s
  | x :: s, i + 1, y => x :: sd s i y
theorem gd_eq : ∀ (s : Sd) (i : Nat), gd s i = s[i]?.join
  | [], i => by simp [gd]
  | x :: s, 0 => by simp [gd]
  | x :: s, i + 1 => by rw [gd, gd_eq s i]; simp
theorem sd_eq : ∀ (s : Sd) (i : Nat) (y : Option D), sd s i y = s.set i y
  | [], i, y => by simp [sd]
  | x :: s, 0, y => by simp [sd]
  | x :: s, i + 1, y => by rw [sd, sd_eq s i]; simp
theorem sd_length (s : Sd) (i : Nat) (y : Option D) : (sd s i y).length = s.length := by rw [sd_eq]; simp
theorem gd_lt {s : Sd} {i : Nat} {d : D} (h : gd s i = some d) : i < s.length := by
  rw [gd_eq] at h
  by_cases hi : i < s.length
  · exact hi
  · rw [List.getElem?_eq_none (by omega)] at h; simp at h
theorem gd_sd_same {s : Sd} {i : Nat} {y : Option D} (h : i < s.length) : gd (sd s i y) i = y := by
  rw [gd_eq, sd_eq, List.getElem?_set_self h]; simp
theorem gd_sd_ne {s : Sd} {i j : Nat} {y : Option D} (h : i ≠ j) : gd (sd s i y) j = gd s j := by
  rw [gd_eq, gd_eq, sd_eq, List.getElem?_set_ne h]
def gv (σ : St) (i : Nat) : Option V := σ[i]?.join
theorem gv_some {σ : St} {i : Nat} {v : V} : gv σ i = some v ↔ σ[i]? = some (some v) := by
  unfold gv
  cases h : σ[i]? with
  | none => simp
  | some x => cases x <;> simp
theorem gv_set_same {σ : St} {i : Nat} {y : Option V} (h : i < σ.length) : gv (σ.set i y) i = y := by
  unfold gv; rw [List.getElem?_set_self h]; simp
theorem gv_set_ne {σ : St} {i j : Nat} {y : Option V} (h : i ≠ j) : gv (σ.set i y) j = gv σ j := by
  unfold gv; rw [List.getElem?_set_ne h]
/-- a list of its own in the heap -/
structure OwnAt (G : Cw) (F : Frm) (r : Rt) (S H : Hp) (l : Addr) (ds : List D) : Prop where
  ex : ∃ vs, H l = some (.lst vs) ∧ vs.length ≤ sizeLine ∧ DAts G r S vs ds
  s : S l = none
  f : F.H l = none
  b : r.bag ≠ some l
def SlotOk (G : Cw) (F : Frm) (r : Rt) (S H : Hp) (sv : Option V) : Option D → Prop
  | none => True
  | some (.own ds) => ∃ l, sv = some (.ref l) ∧ OwnAt G F r S H l ds
  | some d => ∃ v, sv = some v ∧ DAt G r S v d
def isOwn : D → Bool
  | .own _ => true
  | _ => false
structure Rep (G : Cw) (F : Frm) (r : Rt) (S H : Hp) (σ : St) (s : Sd) : Prop where
  len : σ.length = s.length
  slot : ∀ i, SlotOk G F r S H (gv σ i) (gd s i)
  dis : ∀ i j ds es l, i ≠ j → gd s i = some (.own ds) → gd s j = some (.own es) → gv σ i = some (.ref l) → gv σ j ≠ some (.ref l)
section
variable {G : Cw} {F : Frm} {r r' : Rt} {S H S' H' : Hp} {σ : St} {s : Sd}
theorem slot_val {sv : Option V} {d : D} (h : SlotOk G F r S H sv (some d)) (n : isOwn d = false) : ∃ v, sv = some v ∧ DAt G r S v d := by
  cases d <;> first | exact h | cases n
theorem slot_of {sv : Option V} {d : D} (n : isOwn d = false) (h : ∃ v, sv = some v ∧ DAt G r S v d) : SlotOk G F r S H sv (some d) := by
  cases d <;> first | exact h | cases n
theorem DAt.notOwn {v : V} {d : D} (h : DAt G r S v d) : isOwn d = false := by cases h <;> rfl
/-- slots stand while what is frozen stands and the own lists are as they were -/
theorem SlotOk.mono {sv : Option V} {od : Option D} (h : SlotOk G F r S H sv od) (e : Ext r S r' S') (ho : ∀ l ds, od = some (.own ds) → sv = some (.ref l) → OwnAt G F r S H l ds → H' l = H l ∧ S' l = none ∧ r'.bag ≠ some l) : SlotOk G F r' S' H' sv od := by
  cases od with
  | none => trivial
  | some d =>
    cases n : isOwn d with
    | false =>
      obtain ⟨v, e1, a⟩ := slot_val h n
      exact slot_of n ⟨v, e1, a.ext e⟩
    | true =>
      cases d with
      | own ds =>
        obtain ⟨l, e1, o⟩ := h
        obtain ⟨h1, h2, h3⟩ := ho l ds rfl e1 o
        obtain ⟨vs, hl, hz, a⟩ := o.ex
        exact ⟨l, e1, ⟨vs, by rw [h1]; exact hl, hz, a.ext e⟩, h2, o.f, h3⟩
      | _ => cases n
theorem Rep.mono (h : Rep G F r S H σ s) (e : Ext r S r' S') (ho : ∀ i l ds, gd s i = some (.own ds) → gv σ i = some (.ref l) → OwnAt G F r S H l ds → H' l = H l ∧ S' l = none ∧ r'.bag ≠ some l) : Rep G F r' S' H' σ s :=
  ⟨h.len, fun i => (h.slot i).mono e fun l ds e1 e2 o => ho i l ds e1 e2 o, h.dis⟩
theorem Rep.gro (h : Rep G F r S H σ s) (g : Gro S H S' H') : Rep G F r S' H' σ s := h.mono (g.ext r) fun i l ds _ _ o => by
  obtain ⟨vs, e, _, _⟩ := o.ex
  exact ⟨by rw [g.h _ _ e, e], by rw [g.old l (by rw [e]; simp)]; exact o.s, o.b⟩
theorem Rep.get {i : Nat} {d : D} (h : Rep G F r S H σ s) (e : gd s i = some d) (n : isOwn d = false) : ∃ v, σ[i]? = some (some v) ∧ DAt G r S v d := by
  have q := h.slot i
  rw [e] at q
  obtain ⟨v, e1, a⟩ := slot_val q n
  exact ⟨v, gv_some.mp e1, a⟩
theorem Rep.own {i : Nat} {ds : List D} (h : Rep G F r S H σ s) (e : gd s i = some (.own ds)) : ∃ l, σ[i]? = some (some (.ref l)) ∧ OwnAt G F r S H l ds := by
  have q := h.slot i
  rw [e] at q
  obtain ⟨l, e1, a⟩ := q
  exact ⟨l, gv_some.mp e1, a⟩
/-- a slot set to a value -/
theorem Rep.set {i : Nat} {v : V} {d : D} (h : Rep G F r S H σ s) (a : DAt G r S v d) : Rep G F r S H (σ.set i (some v)) (sd s i (some d)) := by
  refine ⟨by rw [sd_length, List.length_set, h.len], fun j => ?_, fun j k ds es l hjk e1 e2 e3 e4 => ?_⟩
  · by_cases hj : i = j
    · subst hj
      by_cases hi : i < s.length
      · rw [gd_sd_same hi, gv_set_same (by rw [h.len]; exact hi)]
        exact slot_of a.notOwn ⟨v, rfl, a⟩
      · have : gd (sd s i (some d)) i = none := by rw [gd_eq, List.getElem?_eq_none (by rw [sd_length]; omega)]; simp
        rw [this]; trivial
    · rw [gd_sd_ne hj, gv_set_ne hj]; exact h.slot j
  · have nj : i ≠ j := fun z => by
      subst z
      by_cases hi : i < s.length
      · rw [gd_sd_same hi] at e1; cases e1; cases a.notOwn
      · have := gd_lt e1; rw [sd_length] at this; omega
    have nk : i ≠ k := fun z => by
      subst z
      by_cases hi : i < s.length
      · rw [gd_sd_same hi] at e2; cases e2; cases a.notOwn
      · have := gd_lt e2; rw [sd_length] at this; omega
    rw [gd_sd_ne nj] at e1
    rw [gd_sd_ne nk] at e2
    rw [gv_set_ne nj] at e3
    rw [gv_set_ne nk] at e4
    exact h.dis j k ds es l hjk e1 e2 e3 e4
/-- a slot forgotten -/
theorem Rep.wipe {i : Nat} {y : Option V} (h : Rep G F r S H σ s) : Rep G F r S H (σ.set i y) (sd s i none) := by
  refine ⟨by rw [sd_length, List.length_set, h.len], fun j => ?_, fun j k ds es l hjk e1 e2 e3 e4 => ?_⟩
  · by_cases hj : i = j
    · subst hj
      have : gd (sd s i none) i = none := by
        by_cases hi : i < s.length
        · rw [gd_sd_same hi]
        · rw [gd_eq, List.getElem?_eq_none (by rw [sd_length]; omega)]; simp
      rw [this]; trivial
    · rw [gd_sd_ne hj, gv_set_ne hj]; exact h.slot j
  · have nj : i ≠ j := fun z => by
      subst z
      by_cases hi : i < s.length
      · rw [gd_sd_same hi] at e1; cases e1
      · have := gd_lt e1; rw [sd_length] at this; omega
    have nk : i ≠ k := fun z => by
      subst z
      by_cases hi : i < s.length
      · rw [gd_sd_same hi] at e2; cases e2
      · have := gd_lt e2; rw [sd_length] at this; omega
    rw [gd_sd_ne nj] at e1
    rw [gd_sd_ne nk] at e2
    rw [gv_set_ne nj] at e3
    rw [gv_set_ne nk] at e4
    exact h.dis j k ds es l hjk e1 e2 e3 e4
/-- the value stays, its data is forgotten -/
theorem Rep.forget {i : Nat} (h : Rep G F r S H σ s) : Rep G F r S H σ (sd s i none) := by
  by_cases hi : i < σ.length
  · have e : σ = σ.set i σ[i] := by simp
    rw [e]; exact h.wipe
  · have : sd s i none = s := by rw [sd_eq]; exact List.set_eq_of_length_le (by rw [← h.len]; omega)
    rw [this]; exact h
/-- a slot set to a list of its own -/
theorem Rep.setOwn {i : Nat} {l : Addr} {ds : List D} (h : Rep G F r S H σ s) (o : OwnAt G F r S H l ds) (nw : ∀ j es, gd s j = some (.own es) → j ≠ i → gv σ j ≠ some (.ref l)) : Rep G F r S H (σ.set i (some (.ref l))) (sd s i (some (.own ds))) := by
  refine ⟨by rw [sd_length, List.length_set, h.len], fun j => ?_, fun j k es fs m hjk e1 e2 e3 e4 => ?_⟩
  · by_cases hj : i = j
    · subst hj
      by_cases hi : i < s.length
      · rw [gd_sd_same hi, gv_set_same (by rw [h.len]; exact hi)]
        exact ⟨l, rfl, o⟩
      · have : gd (sd s i (some (.own ds))) i = none := by rw [gd_eq, List.getElem?_eq_none (by rw [sd_length]; omega)]; simp
        rw [this]; trivial
    · rw [gd_sd_ne hj, gv_set_ne hj]; exact h.slot j
  · have hij : i = j ∨ i ≠ j := Nat.decEq i j |>.byCases .inl .inr
    rcases hij with hij | hij
    · subst hij
      have hi : i < s.length := by have := gd_lt e1; rw [sd_length] at this; exact this
      rw [gv_set_same (by rw [h.len]; exact hi)] at e3
      cases e3
      rw [gd_sd_ne hjk] at e2
      rw [gv_set_ne hjk] at e4
      exact nw k fs e2 (Ne.symm hjk) e4
    · rw [gd_sd_ne hij] at e1
      rw [gv_set_ne hij] at e3
      by_cases hik : i = k
      · subst hik
        have hi : i < s.length := by have := gd_lt e2; rw [sd_length] at this; exact this
        rw [gv_set_same (by rw [h.len]; exact hi)] at e4
        cases e4
        exact nw j es e1 (Ne.symm hij) e3
      · rw [gd_sd_ne hik] at e2
        rw [gv_set_ne hik] at e4
        exact h.dis j k es fs m hjk e1 e2 e3 e4
/-- the own list at slot i is written -/
theorem Rep.write {i : Nat} {l : Addr} {ds es : List D} {vs : List V} (h : Rep G F r S H σ s) (e : gd s i = some (.own ds)) (ev : σ[i]? = some (some (.ref l))) (o : OwnAt G F r S H l ds) (a : DAts G r S vs es) (hz : vs.length ≤ sizeLine) :
    Rep G F r S (upd H l (.lst vs)) σ (sd s i (some (.own es))) := by
  have h1 : Rep G F r S (upd H l (.lst vs)) σ (sd s i none) := by
    refine (h.forget (i := i)).mono (.refl _ _) fun j m fs e1 e2 o2 => ⟨upd_ne fun z => ?_, o2.s, o2.b⟩
    subst z
    have hij : i ≠ j := fun z => by
      subst z
      rw [gd_sd_same (gd_lt e)] at e1
      cases e1
    rw [gd_sd_ne hij] at e1
    exact h.dis i j ds fs m hij e e1 (gv_some.mpr ev) e2
  have h2 := h1.setOwn (i := i) (l := l) (ds := es) ⟨⟨vs, upd_same, hz, a⟩, o.s, o.f, o.b⟩ fun j fs e1 hj e2 => by
    rw [gd_sd_ne (Ne.symm hj)] at e1
    exact h.dis i j ds fs l (Ne.symm hj) e e1 (gv_some.mpr ev) e2
  have e3 : σ.set i (some (.ref l)) = σ := by
    obtain ⟨hi, e4⟩ := List.getElem?_eq_some_iff.mp ev
    rw [← e4]; simp
  have e5 : sd (sd s i none) i (some (.own es)) = sd s i (some (.own es)) := by rw [sd_eq, sd_eq, sd_eq]; simp
  rw [e3, e5] at h2
  exact h2
/-- .. and frozen -/
theorem Good.freeze {l : Addr} {ds : List D} {vs : List V} (k : Good G F r S H) (o : OwnAt G F r S H l ds) (hl : H l = some (.lst vs)) : Good G F r (upd S l (.lst vs)) H ∧ Ext r S r (upd S l (.lst vs)) := by
  have ex : Same S (upd S l (.lst vs)) := fun a u e => by
    rw [upd_ne (ne_of_none e o.s)]; exact e
  refine ⟨⟨fun a u e => ?_, k.keep, fun a u e => ?_, k.ext.trans ex, fun a e => ?_, k.rb, k.rF⟩, ex, .refl _⟩
  · by_cases z : a = l
    · subst z; rw [upd_same] at e; rw [hl]; exact e
    · rw [upd_ne z] at e; exact k.sub _ _ e
  · rw [upd_ne (ne_of_none e o.f)]; exact k.frz a u e
  · obtain ⟨f, c, ns, x1, x2, x3, x4, e1, l1, q⟩ := k.bag a e
    refine ⟨?_, c, ns, x1, x2, x3, x4, e1, ex _ _ l1, q⟩
    have hne : a ≠ l := fun z => o.b (by rw [← z]; exact e)
    rw [upd_ne hne]; exact f
theorem Rep.freeze {i : Nat} {l : Addr} {ds : List D} {vs : List V} (h : Rep G F r S H σ s) (e : gd s i = some (.own ds)) (ev : σ[i]? = some (some (.ref l))) (o : OwnAt G F r S H l ds) (hl : H l = some (.lst vs)) :
    Rep G F r (upd S l (.lst vs)) H σ (sd s i (some (.lst ds))) ∧ DAt G r (upd S l (.lst vs)) (.ref l) (.lst ds) := by
  have ex : Same S (upd S l (.lst vs)) := fun a u e => by
    rw [upd_ne (ne_of_none e o.s)]; exact e
  have h1 : Rep G F r (upd S l (.lst vs)) H σ (sd s i none) := by
    refine (h.forget (i := i)).mono ⟨ex, .refl _⟩ fun j m fs e1 e2 o2 => ⟨rfl, ?_, o2.b⟩
    rw [upd_ne]
    · exact o2.s
    · rintro rfl
      have hij : i ≠ j := fun z => by
        subst z
        rw [gd_sd_same (gd_lt e)] at e1
        cases e1
      rw [gd_sd_ne hij] at e1
      exact h.dis i j ds fs m hij e e1 (gv_some.mpr ev) e2
  obtain ⟨ws, hw, hz, a⟩ := o.ex
  rw [hl] at hw
  cases hw
  have dd : DAt G r (upd S l (.lst vs)) (.ref l) (.lst ds) := .lst upd_same hz (a.mono ex (.refl _))
  have h2 := h1.set (i := i) dd
  have e3 : σ.set i (some (.ref l)) = σ := by
    obtain ⟨hi, e4⟩ := List.getElem?_eq_some_iff.mp ev
    rw [← e4]; simp
  have e5 : sd (sd s i none) i (some (.lst ds)) = sd s i (some (.lst ds)) := by rw [sd_eq, sd_eq, sd_eq]; simp
  rw [e3, e5] at h2
  exact ⟨h2, dd⟩
end
end DL

set_option Elab.async false
set_option linter.all false
set_option maxRecDepth 100000
set_option maxHeartbeats 4000000
/-! DL2: readings over data: expressions. -/
namespace DL
open PySem PySem.Spec L2

abbrev TEd := Sd → (D → Sd → Prop) → Prop
abbrev TTd := Sd → (Bool → Sd → Prop) → Prop
abbrev TAd := Sd → (List D → Sd → Prop) → Prop
section
variable (G : Cw) (F : Frm)
/-- behind an expression -/
def Po (σ : L2.St) (r : Rt) (S : Hp) (Qd : D → Sd → Prop) : VK := fun v H' => ∃ r' S' s' d, Ext r S r' S' ∧ Good G F r' S' H' ∧ Rep G F r' S' H' σ s' ∧ DAt G r' S' v d ∧ Qd d s'
def PoT (σ : L2.St) (r : Rt) (S : Hp) (Qd : Bool → Sd → Prop) : Bool → Hp → Prop := fun b H' => ∃ r' S' s', Ext r S r' S' ∧ Good G F r' S' H' ∧ Rep G F r' S' H' σ s' ∧ Qd b s'
def PoA (σ : L2.St) (r : Rt) (S : Hp) (Qd : List D → Sd → Prop) : List V → Hp → Prop := fun vs H' => ∃ r' S' s' ds, Ext r S r' S' ∧ Good G F r' S' H' ∧ Rep G F r' S' H' σ s' ∧ DAts G r' S' vs ds ∧ Qd ds s'
/-- a fresh list that nothing else holds -/
def PoF (σ : L2.St) (r : Rt) (S : Hp) (Qd : List D → Sd → Prop) : VK := fun v H' => ∃ r' S' s' l ds, Ext r S r' S' ∧ Good G F r' S' H' ∧ Rep G F r' S' H' σ s' ∧ v = .ref l ∧ OwnAt G F r' S' H' l ds ∧ (∀ j es, gd s' j = some (.own es) → gv σ j ≠ some (.ref l)) ∧ Qd ds s'
def LE (t : TEd) : TE := fun σ H Q => ∃ r S s Qd, Good G F r S H ∧ Rep G F r S H σ s ∧ t s Qd ∧ ∀ v H', Po G F σ r S Qd v H' → Q v H'
def LT (t : TTd) : TT := fun σ H Q => ∃ r S s Qd, Good G F r S H ∧ Rep G F r S H σ s ∧ t s Qd ∧ ∀ v H', PoT G F σ r S Qd v H' → Q v H'
def LA (t : TAd) : TA := fun σ H Q => ∃ r S s Qd, Good G F r S H ∧ Rep G F r S H σ s ∧ t s Qd ∧ ∀ v H', PoA G F σ r S Qd v H' → Q v H'
def LF (t : TAd) : TE := fun σ H Q => ∃ r S s Qd, Good G F r S H ∧ Rep G F r S H σ s ∧ t s Qd ∧ ∀ v H', PoF G F σ r S Qd v H' → Q v H'
end
structure PD (G : Cw) (F : Frm) (X : Cx) (e : Expr) (t : TEd) : Prop where pe : PE X e (LE G F t)
structure PDT (G : Cw) (F : Frm) (X : Cx) (e : Expr) (t : TTd) : Prop where pt : PT X e (LT G F t)
structure PDA (G : Cw) (F : Frm) (X : Cx) (es : List Expr) (t : TAd) : Prop where pa : PA X es (LA G F t)
/-- an expression that gives a fresh list -/
structure PDF (G : Cw) (F : Frm) (X : Cx) (e : Expr) (t : TAd) : Prop where pe : PE X e (LF G F t)

/-- a reading weakened -/
theorem PE.imp {X : Cx} {e : Expr} {t t' : TE} (h : PE X e t) (i : ∀ σ H Q, t' σ H Q → t σ H Q) : PE X e t' := ⟨fun pins s σ H Q I q => h.run pins s σ H Q I (i _ _ _ q)⟩
theorem PT.imp {X : Cx} {e : Expr} {t t' : TT} (h : PT X e t) (i : ∀ σ H Q, t' σ H Q → t σ H Q) : PT X e t' := ⟨fun pins s σ H Q I q => h.run pins s σ H Q I (i _ _ _ q)⟩
theorem PA.imp {X : Cx} {e : List Expr} {t t' : TA} (h : PA X e t) (i : ∀ σ H Q, t' σ H Q → t σ H Q) : PA X e t' := ⟨fun p pins s σ H Q I q => h.run p pins s σ H Q I (i _ _ _ q)⟩

section
variable {G : Cw} {F : Frm} {X : Cx} {e a b : Expr} {t ta tb : TEd} {pos : Pos}
theorem PD.of {te : TE} (h : PE X e te) (i : ∀ σ H r S s Qd, Good G F r S H → Rep G F r S H σ s → t s Qd → te σ H (Po G F σ r S Qd)) (m : ∀ σ H (Q Q' : VK), (∀ v H', Q v H' → Q' v H') → te σ H Q → te σ H Q') : PD G F X e t :=
  ⟨PE.imp h fun σ H Q ⟨r, S, s, Qd, g, rp, q, k⟩ => m σ H _ _ k (i σ H r S s Qd g rp q)⟩
/-- .. where the wish may be any -/
theorem PD.ofQ {te : TE} (h : PE X e te) (i : ∀ σ H r S s Qd Q, Good G F r S H → Rep G F r S H σ s → t s Qd → (∀ v H', Po G F σ r S Qd v H' → Q v H') → te σ H Q) : PD G F X e t :=
  ⟨PE.imp h fun σ H Q ⟨r, S, s, Qd, g, rp, q, k⟩ => i σ H r S s Qd Q g rp q k⟩
/-- use of a part's reading -/
theorem LE.use {σ : L2.St} {H : Hp} {r : Rt} {S : Hp} {s : Sd} {Qd : D → Sd → Prop} {Q : VK} (g : Good G F r S H) (rp : Rep G F r S H σ s) (q : t s Qd) (k : ∀ v H' r' S' s' d, Ext r S r' S' → Good G F r' S' H' → Rep G F r' S' H' σ s' → DAt G r' S' v d → Qd d s' → Q v H') : LE G F t σ H Q :=
  ⟨r, S, s, Qd, g, rp, q, fun v H' ⟨r', S', s', d, e, g', rp', a, q'⟩ => k v H' r' S' s' d e g' rp' a q'⟩
theorem LT.use {σ : L2.St} {H : Hp} {r : Rt} {S : Hp} {s : Sd} {t : TTd} {Qd : Bool → Sd → Prop} {Q : Bool → Hp → Prop} (g : Good G F r S H) (rp : Rep G F r S H σ s) (q : t s Qd) (k : ∀ v H' r' S' s', Ext r S r' S' → Good G F r' S' H' → Rep G F r' S' H' σ s' → Qd v s' → Q v H') : LT G F t σ H Q :=
  ⟨r, S, s, Qd, g, rp, q, fun v H' ⟨r', S', s', e, g', rp', q'⟩ => k v H' r' S' s' e g' rp' q'⟩
theorem LA.use {σ : L2.St} {H : Hp} {r : Rt} {S : Hp} {s : Sd} {t : TAd} {Qd : List D → Sd → Prop} {Q : List V → Hp → Prop} (g : Good G F r S H) (rp : Rep G F r S H σ s) (q : t s Qd) (k : ∀ v H' r' S' s' d, Ext r S r' S' → Good G F r' S' H' → Rep G F r' S' H' σ s' → DAts G r' S' v d → Qd d s' → Q v H') : LA G F t σ H Q :=
  ⟨r, S, s, Qd, g, rp, q, fun v H' ⟨r', S', s', d, e, g', rp', a, q'⟩ => k v H' r' S' s' d e g' rp' a q'⟩

/-! ### names, constants -/
def varD (o : Option D) (i : Nat) (s : Sd) (Q : D → Sd → Prop) : Prop := match o with
  | some (.own ds) => Q (.lst ds) (sd s i (some (.lst ds)))
  | some d => Q d s
  | none => False
def dVar (i : Nat) : TEd := fun s Q => varD (gd s i) i s Q
theorem varD_own {ds : List D} {i : Nat} {s : Sd} {Q : D → Sd → Prop} : varD (some (.own ds)) i s Q = Q (.lst ds) (sd s i (some (.lst ds))) := rfl
theorem varD_val {d : D} {i : Nat} {s : Sd} {Q : D → Sd → Prop} (h : isOwn d = false) : varD (some d) i s Q = Q d s := by cases d <;> first | rfl | cases h
theorem pd_var {x : Str} (i : Nat) (h : PE X (.Name x pos) (tVar i)) : PD G F X (.Name x pos) (dVar i) := by
  refine PD.ofQ h fun σ H r S s Qd Q g rp q k => ?_
  unfold dVar varD at q
  cases e : gd s i with
  | none => rw [e] at q; exact q.elim
  | some d =>
    rw [e] at q
    cases n : isOwn d with
    | false =>
      obtain ⟨v, ev, a⟩ := rp.get e n
      have q' : Qd d s := by cases d <;> first | exact q | cases n
      exact ⟨v, ev, k v H ⟨r, S, s, d, .refl _ _, g, rp, a, q'⟩⟩
    | true =>
      cases d with
      | own ds =>
        obtain ⟨l, ev, o⟩ := rp.own e
        obtain ⟨vs, hl, hz, _⟩ := o.ex
        obtain ⟨g2, ex⟩ := g.freeze o hl
        obtain ⟨rp2, dd⟩ := rp.freeze e ev o hl
        exact ⟨_, ev, k _ H ⟨r, _, _, _, ex, g2, rp2, dd, q⟩⟩
      | _ => cases n
def dC (d : D) : TEd := fun s Q => Q d s
theorem pd_c {v : V} {d : D} (h : PE X e (tC v)) (a : ∀ r S, DAt G r S v d) : PD G F X e (dC d) :=
  PD.ofQ h fun σ H r S s Qd Q g rp q k => k _ _ ⟨r, S, s, d, .refl _ _, g, rp, a r S, q⟩
theorem pd_int {i : Int} {j : Nat} : PD G F X (.Constant (.int i) j pos) (dC (.int i)) := pd_c pe_int fun _ _ => .int i
theorem pd_str {x : Str} {j : Nat} : PD G F X (.Constant (.str x) j pos) (dC (.str x)) := pd_c pe_str fun _ _ => .str x
theorem pd_bl {k : Bool} {j : Nat} : PD G F X (.Constant (.bool k) j pos) (dC (.bl k)) := pd_c pe_bl fun _ _ => .bl k
theorem pd_non {j : Nat} : PD G F X (.Constant .none j pos) (dC .non) := pd_c pe_non fun _ _ => .non
theorem pd_glob {x : Str} {v : V} {d : D} {u : Value} (hg : Gl X x) (hm : X.mg x = some u) (r : RelV v u) (a : ∀ r S, DAt G r S v d) (hd : (x == ("__debug__" : Str)) = false := by decide) : PD G F X (.Name x pos) (dC d) := pd_c (pe_glob hg hm r hd) a

/-! ### operators by values -/
abbrev R2d := D → D → (D → Prop) → Prop
/-- behind a step by values -/
def Pv (G : Cw) (F : Frm) (r : Rt) (S H : Hp) (Qd : D → Prop) : VK := fun v H' => ∃ S' d, Gro S H S' H' ∧ DAt G r S' v d ∧ Qd d
def OpD (G : Cw) (rr : R2) (rD : R2d) : Prop := ∀ F r S H x y dx dy Qd Q, Good G F r S H → DAt G r S x dx → DAt G r S y dy → rD dx dy Qd → (∀ v H', Pv G F r S H Qd v H' → Q v H') → rr x y H Q
def dOp (rD : R2d) (ta tb : TEd) : TEd := fun s Q => ta s fun x s1 => tb s1 fun y s2 => rD x y fun d => Q d s2
/-- two parts in a row -/
theorem LE.two {σ : L2.St} {H : Hp} {r : Rt} {S : Hp} {s : Sd} {Q2 : D → D → Sd → Prop} {Q : V → V → Hp → Prop} (g : Good G F r S H) (rp : Rep G F r S H σ s) (q : ta s fun x s1 => tb s1 fun y s2 => Q2 x y s2)
    (k : ∀ x y H' r' S' s' dx dy, Ext r S r' S' → Good G F r' S' H' → Rep G F r' S' H' σ s' → DAt G r' S' x dx → DAt G r' S' y dy → Q2 dx dy s' → Q x y H') : LE G F ta σ H fun x H1 => LE G F tb σ H1 fun y H2 => Q x y H2 :=
  LE.use g rp q fun x H1 r1 S1 s1 dx e1 g1 rp1 a1 q1 => LE.use g1 rp1 q1 fun y H2 r2 S2 s2 dy e2 g2 rp2 a2 q2 => k x y H2 r2 S2 s2 dx dy (e1.trans e2) g2 rp2 (a1.ext e2) a2 q2
theorem Pv.po {σ : L2.St} {H1 : Hp} {r r1 : Rt} {S S1 : Hp} {s : Sd} {Qd : D → Sd → Prop} {v : V} {H' : Hp} (e : Ext r S r1 S1) (g : Good G F r1 S1 H1) (rp : Rep G F r1 S1 H1 σ s) (p : Pv G F r1 S1 H1 (fun d => Qd d s) v H') : Po G F σ r S Qd v H' := by
  obtain ⟨S', d, gr, a, q⟩ := p
  exact ⟨r1, S', s, d, e.trans (gr.ext r1), g.gro gr, rp.gro gr, a, q⟩
theorem tOp_of {rr : R2} {rD : R2d} (c : OpD G rr rD) {σ : L2.St} {H : Hp} {r : Rt} {S : Hp} {s : Sd} {Qd : D → Sd → Prop} {Q : VK} (g : Good G F r S H) (rp : Rep G F r S H σ s) (q : dOp rD ta tb s Qd) (k : ∀ v H', Po G F σ r S Qd v H' → Q v H') : tOp rr (LE G F ta) (LE G F tb) σ H Q :=
  LE.two g rp q fun x y H' r' S' s' dx dy e g' rp' ax ay q' => c F r' S' H' x y dx dy _ _ g' ax ay q' fun v H2 p => k v H2 (p.po e g' rp')
theorem pd_op {op : Operator} {rr : R2} {rD : R2d} (c : OpD G rr rD) (ho : OpR X (binaryOp op) rr) (ha : PD G F X a ta) (hb : PD G F X b tb) : PD G F X (.BinOp a op b pos) (dOp rD ta tb) :=
  PD.ofQ (pe_op ho ha.pe hb.pe) fun σ H r S s Qd Q g rp q k => tOp_of c g rp q k
theorem pd_cmp {op : CmpOp} {rr : R2} {rD : R2d} (c : OpD G rr rD) (ho : OpR X (compareOp op) rr) (ha : PD G F X a ta) (hb : PD G F X b tb) (hm : behindInMarks op b = false) : PD G F X (.Compare a [op] [b] pos) (dOp rD ta tb) :=
  PD.ofQ (pe_cmpR ho ha.pe hb.pe hm) fun σ H r S s Qd Q g rp q k => tOp_of c g rp q k

theorem Pv.same {r : Rt} {S H : Hp} {Qd : D → Prop} {v : V} {d : D} (g : Good G F r S H) (a : DAt G r S v d) (q : Qd d) : Pv G F r S H Qd v H := ⟨S, d, .refl g.sub, a, q⟩
theorem Pv.tup {r : Rt} {S H : Hp} {Qd : D → Prop} {vs : List V} {ds : List D} {p : Addr} (g : Good G F r S H) (hp : H p = none) (hz : vs.length ≤ sizeLine) (a : DAts G r S vs ds) (q : Qd (.tup ds)) : Pv G F r S H Qd (.ref p) (upd H p (.tup vs)) := by
  have gr : Gro S H (upd S p (.tup vs)) (upd H p (.tup vs)) := .new g.sub hp
  exact ⟨_, _, gr, .tup (.of upd_same) hz (a.mono gr.s (.refl _)), q⟩
theorem Pv.lst {r : Rt} {S H : Hp} {Qd : D → Prop} {vs : List V} {ds : List D} {p : Addr} (g : Good G F r S H) (hp : H p = none) (hz : vs.length ≤ sizeLine) (a : DAts G r S vs ds) (q : Qd (.lst ds)) : Pv G F r S H Qd (.ref p) (upd H p (.lst vs)) := by
  have gr : Gro S H (upd S p (.lst vs)) (upd H p (.lst vs)) := .new g.sub hp
  exact ⟨_, _, gr, .lst upd_same hz (a.mono gr.s (.refl _)), q⟩
theorem sqT_sub {K : PySem.W.Frag} {S H : Hp} {a : Addr} {xs : List V} (e : Same S H) (h : SqT K S a xs) : SqT K H a xs := sqT_same e h

/-! ### plus, minus, times -/
def rAdd : R2d := fun x y Q => match x, y with
  | .int i, .int j => Q (.int (i + j))
  | .str i, .str j => i.length + j.length ≤ sizeLine ∧ Q (.str (i ++ j))
  | .tup xs, .tup ys => xs.length + ys.length ≤ sizeLine ∧ Q (.tup (xs ++ ys))
  | .lst xs, .lst ys => xs.length + ys.length ≤ sizeLine ∧ Q (.lst (xs ++ ys))
  | _, _ => False
def hAdd (K : PySem.W.Frag) : R2 := fun x y H Q => rI0 (fun i j => .int (i + j)) x y H Q ∨ (∃ i j, x = .str i ∧ y = .str j ∧ i.length + j.length ≤ sizeLine ∧ Q (.str (i ++ j)) H) ∨ rCatA K x y H Q ∨ rCat x y H Q
theorem op_addA : OpR X (binaryOp .Add) (hAdd X.K) := op_add.or (op_add_str.or (op_catA.or op_cat))
theorem opD_add {K : PySem.W.Frag} (hK : K = G.K) : OpD G (hAdd K) rAdd := by
  subst hK
  intro F r S H x y dx dy Qd Q g ax ay q k
  cases ax <;> cases ay <;> try exact q.elim
  case int.int i j => exact .inl ⟨i, j, rfl, rfl, k _ _ (.same g (.int _) q)⟩
  case str.str i j => exact .inr (.inl ⟨i, j, rfl, rfl, q.1, k _ _ (.same g (.str _) q.2)⟩)
  case tup.tup a vs ds h1 z1 a1 b ws es h2 z2 a2 =>
    refine .inr (.inr (.inl ⟨_, _, vs, ws, rfl, rfl, sqT_sub g.sub h1, sqT_sub g.sub h2, ?_, fun e => ?_, fun _ e => ?_, fun _ _ p hp => ?_⟩))
    · rw [a1.length, a2.length]; exact q.1
    · subst e
      cases a1
      exact k _ _ (.same g (.tup h2 z2 a2) q.2)
    · subst e
      cases a2
      refine k _ _ (.same g (.tup h1 z1 a1) ?_)
      have := q.2
      rw [List.append_nil] at this
      exact this
    · exact k _ _ (.tup g hp (by rw [List.length_append, a1.length, a2.length]; exact q.1) (a1.append a2) q.2)
  case lst.lst a vs ds h1 z1 a1 b ws es h2 z2 a2 =>
    refine .inr (.inr (.inr ⟨_, _, vs, ws, rfl, rfl, g.sub _ _ h1, g.sub _ _ h2, ?_, fun p hp => ?_⟩))
    · rw [a1.length, a2.length]; exact q.1
    · exact k _ _ (.lst g hp (by rw [List.length_append, a1.length, a2.length]; exact q.1) (a1.append a2) q.2)
theorem pd_add (ha : PD G F X a ta) (hb : PD G F X b tb) (hK : X.K = G.K := by rfl) : PD G F X (.BinOp a .Add b pos) (dOp rAdd ta tb) := pd_op (opD_add hK) op_addA ha hb
def rInt (C : Int → Int → Prop) (f : Int → Int → D) : R2d := fun x y Q => match x, y with
  | .int i, .int j => C i j ∧ Q (f i j)
  | _, _ => False
def rInt0 (f : Int → Int → D) : R2d := fun x y Q => match x, y with
  | .int i, .int j => Q (f i j)
  | _, _ => False
theorem opD_int {C : Int → Int → Prop} {f : Int → Int → D} {h : Int → Int → V} (a : ∀ r S i j, DAt G r S (h i j) (f i j)) : OpD G (rI C h) (rInt C f) := by
  intro F r S H x y dx dy Qd Q g ax ay q k
  cases ax <;> cases ay <;> try exact q.elim
  case int.int i j => exact ⟨i, j, rfl, rfl, q.1, k _ _ (.same g (a _ _ _ _) q.2)⟩
theorem opD_int0 {f : Int → Int → D} {h : Int → Int → V} (a : ∀ r S i j, DAt G r S (h i j) (f i j)) : OpD G (rI0 h) (rInt0 f) := by
  intro F r S H x y dx dy Qd Q g ax ay q k
  cases ax <;> cases ay <;> try exact q.elim
  case int.int i j => exact ⟨i, j, rfl, rfl, k _ _ (.same g (a _ _ _ _) q)⟩
abbrev rSub : R2d := rInt0 fun i j => .int (i - j)
theorem pd_sub (ha : PD G F X a ta) (hb : PD G F X b tb) : PD G F X (.BinOp a .Sub b pos) (dOp rSub ta tb) := pd_op (opD_int0 fun _ _ _ _ => .int _) op_sub ha hb
/-- what * asks -/
def mulOk (i j : Int) : Prop := i.natAbs.log2 < 64 ∨ j.natAbs.log2 < 64 ∨ i.natAbs.log2 + j.natAbs.log2 < 100000000
theorem mulOk.ok {i j : Int} (h : mulOk i j) : PySem.IntMulOk i j := by
  have b : ∀ x : Int, Builtin.Int.intBits x ≤ x.natAbs.log2 + 1 := fun x => by
    unfold Builtin.Int.intBits
    split <;> omega
  have h1 := b i
  have h2 := b j
  rcases h with h | h | h3
  · exact .of_left (by omega)
  · exact .of_right (by omega)
  have e : bitsLine = 134217728 := by decide
  unfold PySem.IntMulOk
  intro z
  rw [Bool.and_eq_true] at z
  have z2 := z.2
  unfold Builtin.Int.intTooBig at z2
  have z3 := of_decide_eq_true z2
  rw [e] at z3
  omega
theorem op_mulB : OpR X (binaryOp .Mult) (rI mulOk fun i j => .int (i * j)) := opI fun _ _ _ _ _ _ _ hc q => PyProof.Rows.mul_int q (mulOk.ok hc)
abbrev rMul : R2d := rInt mulOk fun i j => .int (i * j)
theorem pd_mul (ha : PD G F X a ta) (hb : PD G F X b tb) : PD G F X (.BinOp a .Mult b pos) (dOp rMul ta tb) := pd_op (opD_int fun _ _ _ _ => .int _) op_mulB ha hb
/-- // by a divisor above 0 -/
def divOk (_ j : Int) : Prop := 0 < j ∧ j.natAbs.log2 < 9000
abbrev rDiv : R2d := rInt divOk fun i j => .int (i / j)
theorem pd_div (ha : PD G F X a ta) (hb : PD G F X b tb) : PD G F X (.BinOp a .FloorDiv b pos) (dOp rDiv ta tb) := pd_op (opD_int fun _ _ _ _ => .int _) (op_fdivW (X := X)) ha hb
abbrev rMod : R2d := rInt (fun _ j => 0 < j) fun i j => .int (i % j)
theorem pd_mod (ha : PD G F X a ta) (hb : PD G F X b tb) : PD G F X (.BinOp a .Mod b pos) (dOp rMod ta tb) := pd_op (opD_int fun _ _ _ _ => .int _) op_mod ha hb
abbrev rPow : R2d := rInt CPow fun i j => .int (i ^ j.toNat)
theorem pd_pow (ha : PD G F X a ta) (hb : PD G F X b tb) : PD G F X (.BinOp a .Pow b pos) (dOp rPow ta tb) := pd_op (opD_int fun _ _ _ _ => .int _) op_pow ha hb
abbrev rShl : R2d := rInt CPow fun i j => .int (i * 2 ^ j.toNat)
theorem pd_shl (ha : PD G F X a ta) (hb : PD G F X b tb) : PD G F X (.BinOp a .LShift b pos) (dOp rShl ta tb) := pd_op (opD_int fun _ _ _ _ => .int _) op_shl ha hb
abbrev rShr : R2d := rInt (fun _ j => 0 ≤ j) fun i j => .int (i / 2 ^ j.toNat)
theorem pd_shr (ha : PD G F X a ta) (hb : PD G F X b tb) : PD G F X (.BinOp a .RShift b pos) (dOp rShr ta tb) := pd_op (opD_int fun _ _ _ _ => .int _) op_shr ha hb
abbrev rBand : R2d := rInt0 fun i j => .int (Builtin.bitAnd i j)
theorem pd_band (ha : PD G F X a ta) (hb : PD G F X b tb) : PD G F X (.BinOp a .BitAnd b pos) (dOp rBand ta tb) := pd_op (opD_int0 fun _ _ _ _ => .int _) op_and ha hb
abbrev rBor : R2d := rInt0 fun i j => .int (Builtin.bitOr i j)
theorem pd_bor (ha : PD G F X a ta) (hb : PD G F X b tb) : PD G F X (.BinOp a .BitOr b pos) (dOp rBor ta tb) := pd_op (opD_int0 fun _ _ _ _ => .int _) op_or ha hb
/-- -a -/
def dUn (f : Int → Int) (ta : TEd) : TEd := fun s Q => ta s fun x s1 => match x with
  | .int i => Q (.int (f i)) s1
  | _ => False
theorem pd_neg (ha : PD G F X a ta) : PD G F X (.UnaryOp .USub a pos) (dUn (fun i => -i) ta) := by
  refine PD.ofQ (pe_un un_neg ha.pe) fun σ H r S s Qd Q g rp q k => ?_
  refine LE.use g rp q fun v H' r' S' s' d e g' rp' ad q' => ?_
  cases ad <;> try exact q'.elim
  exact ⟨_, rfl, k _ _ ⟨r', S', s', _, e, g', rp', .int _, q'⟩⟩

/-! ### comparisons of ints, is -/
abbrev rLtI : R2d := rInt0 fun i j => .bl (decide (i < j))
abbrev rLeI : R2d := rInt0 fun i j => .bl (decide (i ≤ j))
abbrev rGtI : R2d := rInt0 fun i j => .bl (decide (j < i))
abbrev rGeI : R2d := rInt0 fun i j => .bl (decide (j ≤ i))
theorem pd_lt (ha : PD G F X a ta) (hb : PD G F X b tb) : PD G F X (.Compare a [.Lt] [b] pos) (dOp rLtI ta tb) := pd_cmp (opD_int0 fun _ _ _ _ => .bl _) op_lt ha hb (nomark _)
theorem pd_le (ha : PD G F X a ta) (hb : PD G F X b tb) : PD G F X (.Compare a [.LtE] [b] pos) (dOp rLeI ta tb) := pd_cmp (opD_int0 fun _ _ _ _ => .bl _) op_le ha hb (nomark _)
theorem pd_gt (ha : PD G F X a ta) (hb : PD G F X b tb) : PD G F X (.Compare a [.Gt] [b] pos) (dOp rGtI ta tb) := pd_cmp (opD_int0 fun _ _ _ _ => .bl _) op_gt ha hb (nomark _)
theorem pd_ge (ha : PD G F X a ta) (hb : PD G F X b tb) : PD G F X (.Compare a [.GtE] [b] pos) (dOp rGeI ta tb) := pd_cmp (opD_int0 fun _ _ _ _ => .bl _) op_ge ha hb (nomark _)
def isNon : D → Bool
  | .non => true
  | _ => false
def rIsN : R2d := fun x y Q => match y with
  | .non => Q (.bl (isNon x))
  | _ => False
def rNotN : R2d := fun x y Q => match y with
  | .non => Q (.bl (!isNon x))
  | _ => False
theorem isNon_eq {r : Rt} {S : Hp} {v : V} {d : D} (a : DAt G r S v d) : decide (v = .non) = isNon d := by cases a <;> rfl
theorem pd_isN (ha : PD G F X a ta) (hb : PD G F X b tb) : PD G F X (.Compare a [.Is] [b] pos) (dOp rIsN ta tb) := pd_cmp (fun F r S H x y dx dy Qd Q g ax ay q k => by
  cases ay <;> try exact q.elim
  exact ⟨rfl, k _ _ (.same g (.bl _) (by rw [isNon_eq ax]; exact q))⟩) op_isN ha hb (nomark _)
theorem pd_notN (ha : PD G F X a ta) (hb : PD G F X b tb) : PD G F X (.Compare a [.IsNot] [b] pos) (dOp rNotN ta tb) := pd_cmp (fun F r S H x y dx dy Qd Q g ax ay q k => by
  cases ay <;> try exact q.elim
  exact ⟨rfl, k _ _ (.same g (.bl _) (by rw [isNon_eq ax]; exact q))⟩) op_notN ha hb (nomark _)
def rBl2 (f : Bool → Bool → Bool) : R2d := fun x y Q => match x, y with
  | .bl i, .bl j => Q (.bl (f i j))
  | _, _ => False
theorem pd_isB (ha : PD G F X a ta) (hb : PD G F X b tb) : PD G F X (.Compare a [.Is] [b] pos) (dOp (rBl2 fun i j => decide (i = j)) ta tb) := pd_cmp (fun F r S H x y dx dy Qd Q g ax ay q k => by
  cases ax <;> cases ay <;> try exact q.elim
  exact ⟨_, _, rfl, rfl, k _ _ (.same g (.bl _) q)⟩) op_isBl ha hb (nomark _)
theorem pd_notB (ha : PD G F X a ta) (hb : PD G F X b tb) : PD G F X (.Compare a [.IsNot] [b] pos) (dOp (rBl2 fun i j => !decide (i = j)) ta tb) := pd_cmp (fun F r S H x y dx dy Qd Q g ax ay q k => by
  cases ax <;> cases ay <;> try exact q.elim
  exact ⟨_, _, rfl, rfl, k _ _ (.same g (.bl _) q)⟩) op_notBl ha hb (nomark _)

/-! ### == at any depth -/
def strOkD (x : Str) : Bool := (PyData.str x).canLay0
mutual
def okD : D → Bool
  | .non | .bl _ | .int _ => true
  | .str x => strOkD x
  | .tup xs | .lst xs => okAll xs
  | _ => false
def okAll : List D → Bool
  | [] => true
  | x :: xs => okD x && okAll xs
end
mutual
def depD : D → Nat
  | .tup xs | .lst xs => depAll xs + 1
  | _ => 0
def depAll : List D → Nat
  | [] => 0
  | x :: xs => max (depD x) (depAll xs)
end
mutual
def toP : D → PyData
  | .bl k => .bool k
  | .int i => .int i
  | .str x => .str x
  | .tup xs => .tuple (toPs xs)
  | .lst xs => .list (toPs xs)
  | _ => .none
def toPs : List D → List PyData
  | [] => []
  | x :: xs => toP x :: toPs xs
end
mutual
def eqB : D → D → Bool
  | .non, .non => true
  | .bl a, .bl b => a == b
  | .bl a, .int j => (if a then 1 else 0) == j
  | .int i, .bl b => i == (if b then 1 else 0)
  | .int i, .int j => i == j
  | .str x, .str y => x == y
  | .lst xs, .lst ys => eqBs xs ys
  | .tup xs, .tup ys => eqBs xs ys
  | _, _ => false
def eqBs : List D → List D → Bool
  | [], [] => true
  | x :: xs, y :: ys => eqB x y && eqBs xs ys
  | _, _ => false
end
mutual
theorem eqB_eqv : ∀ (x y : D), okD x = true → okD y = true → PyData.eqv (toP x) (toP y) = eqB x y
  | .tup xs, .tup ys, hx, hy => by
    simp only [okD] at hx hy
    simp only [toP, PyData.eqv, eqB]; exact eqBs_eqv xs ys hx hy
  | .lst xs, .lst ys, hx, hy => by
    simp only [okD] at hx hy
    simp only [toP, PyData.eqv, eqB]; exact eqBs_eqv xs ys hx hy
  | .non, y, hx, hy => by cases y <;> simp_all [toP, PyData.eqv, eqB, okD]
  | .bl _, y, hx, hy => by cases y <;> simp_all [toP, PyData.eqv, eqB, okD]
  | .int _, y, hx, hy => by cases y <;> simp_all [toP, PyData.eqv, eqB, okD]
  | .str _, y, hx, hy => by cases y <;> simp_all [toP, PyData.eqv, eqB, okD]
  | .tup _, .non, hx, hy | .tup _, .bl _, hx, hy | .tup _, .int _, hx, hy | .tup _, .str _, hx, hy | .tup _, .lst _, hx, hy => by simp [toP, PyData.eqv, eqB]
  | .lst _, .non, hx, hy | .lst _, .bl _, hx, hy | .lst _, .int _, hx, hy | .lst _, .str _, hx, hy | .lst _, .tup _, hx, hy => by simp [toP, PyData.eqv, eqB]
  | .tup _, .own _, hx, hy | .tup _, .bag, hx, hy | .tup _, .scr _, hx, hy | .tup _, .ins _ _, hx, hy | .tup _, .exc _ _ _ _ _, hx, hy => by simp [okD] at hy
  | .lst _, .own _, hx, hy | .lst _, .bag, hx, hy | .lst _, .scr _, hx, hy | .lst _, .ins _ _, hx, hy | .lst _, .exc _ _ _ _ _, hx, hy => by simp [okD] at hy
  | .own _, _, hx, _ | .bag, _, hx, _ | .scr _, _, hx, _ | .ins _ _, _, hx, _ | .exc _ _ _ _ _, _, hx, _ => by simp [okD] at hx
theorem eqBs_eqv : ∀ (xs ys : List D), okAll xs = true → okAll ys = true → PyData.eqvAll (toPs xs) (toPs ys) = eqBs xs ys
  | [], [], _, _ => by simp [toPs, PyData.eqvAll, eqBs]
  | [], _ :: _, _, _ => by simp [toPs, PyData.eqvAll, eqBs]
  | _ :: _, [], _, _ => by simp [toPs, PyData.eqvAll, eqBs]
  | x :: xs, y :: ys, hx, hy => by
    simp only [okAll, Bool.and_eq_true] at hx hy
    simp only [toPs, PyData.eqvAll, eqBs]
    rw [eqB_eqv x y hx.1 hy.1, eqBs_eqv xs ys hx.2 hy.2]
end
mutual
theorem ok_lay : ∀ (x : D), okD x = true → (toP x).canLay0 = true ∧ (toP x).depth = depD x
  | .non, _ | .bl _, _ | .int _, _ => by simp [toP, PyData.canLay0, PyData.depth, depD]
  | .str x, h => by simp only [okD] at h; exact ⟨h, by simp [toP, PyData.depth, depD]⟩
  | .tup xs, h => by
    simp only [okD] at h
    obtain ⟨h1, h2⟩ := oks_lay xs h
    simp [toP, PyData.canLay0, PyData.depth, depD, h1, h2]
  | .lst xs, h => by
    simp only [okD] at h
    obtain ⟨h1, h2⟩ := oks_lay xs h
    simp [toP, PyData.canLay0, PyData.depth, depD, h1, h2]
  | .own _, h | .bag, h | .scr _, h | .ins _ _, h | .exc _ _ _ _ _, h => by simp [okD] at h
theorem oks_lay : ∀ (xs : List D), okAll xs = true → PyData.canLayAll0 (toPs xs) = true ∧ PyData.depthAll (toPs xs) = depAll xs
  | [], _ => by simp [toPs, PyData.canLayAll0, PyData.depthAll, depAll]
  | x :: xs, h => by
    simp only [okAll, Bool.and_eq_true] at h
    obtain ⟨h1, h2⟩ := ok_lay x h.1
    obtain ⟨h3, h4⟩ := oks_lay xs h.2
    simp [toPs, PyData.canLayAll0, PyData.depthAll, depAll, h1, h2, h3, h4]
end
/-- data that == and in may compare -/
def cmpOk (d : D) : Prop := okD d = true ∧ depD d ≤ 60
theorem cmpOk.shaped {d : D} (h : cmpOk d) : SeqAt.shaped (toP d) = true := by
  obtain ⟨h1, h2⟩ := ok_lay d h.1
  have := h.2
  unfold SeqAt.shaped
  rw [h1, h2]
  simp
  omega
mutual
theorem DAt.dp {r : Rt} {S : Hp} : ∀ {v : V} {d : D}, DAt G r S v d → okD d = true → Dp G.K S v (toP d)
  | _, _, .non, _ => .non
  | _, _, .bl k, _ => .bl k
  | _, _, .int i, _ => .int i
  | _, _, .str x, _ => .str x
  | _, _, .tup h _ a, k => .tup h (DAts.dp a (by simpa [okD] using k))
  | _, _, .lst h _ a, k => .lst (SqL.of h) (DAts.dp a (by simpa [okD] using k))
  | _, _, .bag _, k => by simp [okD] at k
  | _, _, .scr _, k => by simp [okD] at k
  | _, _, .ins _ _ _ _, k => by simp [okD] at k
  | _, _, .exc _ _ _ _, k => by simp [okD] at k
theorem DAts.dp {r : Rt} {S : Hp} : ∀ {vs : List V} {ds : List D}, DAts G r S vs ds → okAll ds = true → DpAll G.K S vs (toPs ds)
  | _, _, .nil, _ => .nil
  | _, _, .cons h t, k => by
    simp only [okAll, Bool.and_eq_true] at k
    exact .cons (DAt.dp h k.1) (DAts.dp t k.2)
end
mutual
theorem dp_sub {K : PySem.W.Frag} {S H : Hp} (e : Same S H) : ∀ {v : V} {d : PyData}, Dp K S v d → Dp K H v d
  | _, _, .non => .non
  | _, _, .bl k => .bl k
  | _, _, .int i => .int i
  | _, _, .str x => .str x
  | _, _, .lst h a => .lst (e.seq h) (dps_sub e a)
  | _, _, .tup h a => .tup (sqT_same e h) (dps_sub e a)
theorem dps_sub {K : PySem.W.Frag} {S H : Hp} (e : Same S H) : ∀ {vs : List V} {ds : List PyData}, DpAll K S vs ds → DpAll K H vs ds
  | _, _, .nil => .nil
  | _, _, .cons h t => .cons (dp_sub e h) (dps_sub e t)
end
def rEq : R2d := fun x y Q => cmpOk x ∧ cmpOk y ∧ Q (.bl (eqB x y))
def rNe : R2d := fun x y Q => cmpOk x ∧ cmpOk y ∧ Q (.bl (!eqB x y))
theorem opD_eq {K : PySem.W.Frag} (hK : K = G.K) : OpD G (rEqD K) rEq := by
  subst hK
  intro F r S H x y dx dy Qd Q g ax ay q k
  obtain ⟨c1, c2, q⟩ := q
  exact ⟨_, _, dp_sub g.sub (ax.dp c1.1), dp_sub g.sub (ay.dp c2.1), c1.shaped, c2.shaped, k _ _ (.same g (.bl _) (by rw [eqB_eqv _ _ c1.1 c2.1]; exact q))⟩
theorem opD_ne {K : PySem.W.Frag} (hK : K = G.K) : OpD G (rNeD K) rNe := by
  subst hK
  intro F r S H x y dx dy Qd Q g ax ay q k
  obtain ⟨c1, c2, q⟩ := q
  exact ⟨_, _, dp_sub g.sub (ax.dp c1.1), dp_sub g.sub (ay.dp c2.1), c1.shaped, c2.shaped, k _ _ (.same g (.bl _) (by rw [eqB_eqv _ _ c1.1 c2.1]; exact q))⟩
theorem pd_eq {n : Nat} (hr : Room n X.A) (ha : PD G F X a ta) (hb : PD G F X b tb) (hK : X.K = G.K := by rfl) : PD G F X (.Compare a [.Eq] [b] pos) (dOp rEq ta tb) := pd_cmp (opD_eq hK) (op_eqD hr.units) ha hb (nomark _)
theorem pd_ne {n : Nat} (hr : Room n X.A) (ha : PD G F X a ta) (hb : PD G F X b tb) (hK : X.K = G.K := by rfl) : PD G F X (.Compare a [.NotEq] [b] pos) (dOp rNe ta tb) := pd_cmp (opD_ne hK) (op_neD hr.units) ha hb (nomark _)
end
end DL

set_option Elab.async false
set_option linter.all false
set_option maxRecDepth 100000
set_option maxHeartbeats 4000000
/-! DL3: tests, sequences, arguments, displays, calls. -/
namespace DL
open PySem PySem.Spec L2

structure PDW (G : Cw) (F : Frm) (X : Cx) (e : Expr) (t : TTd) : Prop where pw : PW X e (LT G F t)
theorem PW.imp {X : Cx} {e : Expr} {t t' : TT} (h : PW X e t) (i : ∀ σ H Q, t' σ H Q → t σ H Q) : PW X e t' := ⟨fun w pins s σ H Q I q => h.run w pins s σ H Q I (i _ _ _ q)⟩
section
variable {G : Cw} {F : Frm} {X : Cx} {e a b c : Expr} {t ta tb tc : TEd} {u ua ub : TTd} {pos : Pos} {rest es : List Expr}
theorem PDT.ofQ {te : TT} (h : PT X e te) (i : ∀ σ H r S s Qd Q, Good G F r S H → Rep G F r S H σ s → u s Qd → (∀ v H', PoT G F σ r S Qd v H' → Q v H') → te σ H Q) : PDT G F X e u :=
  ⟨PT.imp h fun σ H Q ⟨r, S, s, Qd, g, rp, q, k⟩ => i σ H r S s Qd Q g rp q k⟩
theorem PDW.ofQ {te : TT} (h : PW X e te) (i : ∀ σ H r S s Qd Q, Good G F r S H → Rep G F r S H σ s → u s Qd → (∀ v H', PoT G F σ r S Qd v H' → Q v H') → te σ H Q) : PDW G F X e u :=
  ⟨PW.imp h fun σ H Q ⟨r, S, s, Qd, g, rp, q, k⟩ => i σ H r S s Qd Q g rp q k⟩
theorem PDW.pdt (h : PDW G F X e u) : PDT G F X e u := ⟨h.pw.pt⟩
/-! ### tests -/
def dB (t : TEd) : TTd := fun s Q => t s fun x s1 => match x with
  | .bl k => Q k s1
  | _ => False
theorem pdt_val (h : PD G F X e t) (he : ∀ whole, isTrue e X.env whole = (do let v ← whole; standAt e.pos; holding [v] (truthy v)) := by intro _; rfl) : PDT G F X e (dB t) :=
  PDT.ofQ (pt_val h.pe he) fun σ H r S s Qd Q g rp q k => LE.use g rp q fun v H' r' S' s' d e1 g' rp' a q' => by
    cases a <;> try exact q'.elim
    exact ⟨_, rfl, k _ _ ⟨r', S', s', e1, g', rp', q'⟩⟩
theorem pdt_cmp {op : CmpOp} {rr : R2} {rD : R2d} (cc : OpD G rr rD) (ho : OpR X (compareOp op) rr) (ha : PD G F X a ta) (hb : PD G F X b tb) (hm : behindInMarks op b = false) : PDT G F X (.Compare a [op] [b] pos) (dB (dOp rD ta tb)) :=
  PDT.ofQ (pt_cmpR ho ha.pe hb.pe hm) fun σ H r S s Qd Q g rp q k => tOp_of cc g rp q fun v H' ⟨r', S', s', d, e1, g', rp', a1, q'⟩ => by
    cases a1 <;> try exact q'.elim
    exact ⟨_, rfl, k _ _ ⟨r', S', s', e1, g', rp', q'⟩⟩
def dAnd (t u : TTd) : TTd := fun s Q => t s fun c s1 => if c = true then u s1 Q else Q false s1
def dOr (t u : TTd) : TTd := fun s Q => t s fun c s1 => if c = true then Q true s1 else u s1 Q
def dNot (t : TTd) : TTd := fun s Q => t s fun c s1 => Q (!c) s1
theorem pdw_and1 (ha : PDT G F X a ua) : PDW G F X (.BoolOp .And [a] pos) ua := ⟨pw_and1 ha.pt⟩
theorem pdw_or1 (ha : PDT G F X a ua) : PDW G F X (.BoolOp .Or [a] pos) ua := ⟨pw_or1 ha.pt⟩
theorem pdw_and (ha : PDT G F X a ua) (hb : PDW G F X (.BoolOp .And (b :: rest) pos) ub) : PDW G F X (.BoolOp .And (a :: b :: rest) pos) (dAnd ua ub) :=
  PDW.ofQ (pw_and ha.pt hb.pw) fun σ H r S s Qd Q g rp q k => LT.use g rp q fun v H' r' S' s' e1 g' rp' q' => by
    cases v with
    | true => exact LT.use g' rp' q' fun v2 H2 r2 S2 s2 e2 g2 rp2 q2 => k _ _ ⟨r2, S2, s2, e1.trans e2, g2, rp2, q2⟩
    | false => exact k _ _ ⟨r', S', s', e1, g', rp', q'⟩
theorem pdw_or (ha : PDT G F X a ua) (hb : PDW G F X (.BoolOp .Or (b :: rest) pos) ub) : PDW G F X (.BoolOp .Or (a :: b :: rest) pos) (dOr ua ub) :=
  PDW.ofQ (pw_or ha.pt hb.pw) fun σ H r S s Qd Q g rp q k => LT.use g rp q fun v H' r' S' s' e1 g' rp' q' => by
    cases v with
    | false => exact LT.use g' rp' q' fun v2 H2 r2 S2 s2 e2 g2 rp2 q2 => k _ _ ⟨r2, S2, s2, e1.trans e2, g2, rp2, q2⟩
    | true => exact k _ _ ⟨r', S', s', e1, g', rp', q'⟩
theorem pdt_not (ha : PDT G F X a ua) : PDT G F X (.UnaryOp .Not a pos) (dNot ua) :=
  PDT.ofQ (pt_not ha.pt) fun σ H r S s Qd Q g rp q k => LT.use g rp q fun v H' r' S' s' e1 g' rp' q' => k _ _ ⟨r', S', s', e1, g', rp', q'⟩
/-! ### and, or, not as values -/
def dAndV (ta tb : TEd) : TEd := fun s Q => ta s fun x s1 => match x with
  | .bl c => if c = true then tb s1 Q else Q (.bl false) s1
  | _ => False
def dOrV (ta tb : TEd) : TEd := fun s Q => ta s fun x s1 => match x with
  | .bl c => if c = true then Q (.bl true) s1 else tb s1 Q
  | _ => False
def dNotV (ta : TEd) : TEd := fun s Q => ta s fun x s1 => match x with
  | .bl c => Q (.bl (!c)) s1
  | _ => False
theorem pd_one {op} (h : PD G F X a ta) : PD G F X (.BoolOp op [a] pos) ta := ⟨pe_one h.pe⟩
theorem pd_and (ha : PD G F X a ta) (hb : PD G F X (.BoolOp .And (b :: rest) pos) tb) : PD G F X (.BoolOp .And (a :: b :: rest) pos) (dAndV ta tb) :=
  PD.ofQ (pe_and ha.pe hb.pe) fun σ H r S s Qd Q g rp q k => LE.use g rp q fun v H' r' S' s' d e1 g' rp' a1 q' => by
    cases a1 <;> try exact q'.elim
    rename_i c
    refine ⟨c, rfl, ?_⟩
    cases c with
    | true => exact LE.use g' rp' q' fun v2 H2 r2 S2 s2 d2 e2 g2 rp2 a2 q2 => k _ _ ⟨r2, S2, s2, d2, e1.trans e2, g2, rp2, a2, q2⟩
    | false => exact k _ _ ⟨r', S', s', _, e1, g', rp', .bl _, q'⟩
theorem pd_or (ha : PD G F X a ta) (hb : PD G F X (.BoolOp .Or (b :: rest) pos) tb) : PD G F X (.BoolOp .Or (a :: b :: rest) pos) (dOrV ta tb) :=
  PD.ofQ (pe_or ha.pe hb.pe) fun σ H r S s Qd Q g rp q k => LE.use g rp q fun v H' r' S' s' d e1 g' rp' a1 q' => by
    cases a1 <;> try exact q'.elim
    rename_i c
    refine ⟨c, rfl, ?_⟩
    cases c with
    | false => exact LE.use g' rp' q' fun v2 H2 r2 S2 s2 d2 e2 g2 rp2 a2 q2 => k _ _ ⟨r2, S2, s2, d2, e1.trans e2, g2, rp2, a2, q2⟩
    | true => exact k _ _ ⟨r', S', s', _, e1, g', rp', .bl _, q'⟩
theorem pd_not (ha : PD G F X a ta) : PD G F X (.UnaryOp .Not a pos) (dNotV ta) :=
  PD.ofQ (pe_not ha.pe) fun σ H r S s Qd Q g rp q k => LE.use g rp q fun v H' r' S' s' d e1 g' rp' a1 q' => by
    cases a1 <;> try exact q'.elim
    exact ⟨_, rfl, k _ _ ⟨r', S', s', _, e1, g', rp', .bl _, q'⟩⟩
def dIf (tt : TTd) (ta tb : TEd) : TEd := fun s Q => tt s fun c s1 => if c = true then ta s1 Q else tb s1 Q
theorem pd_ifExp (hc : PDT G F X c u) (ha : PD G F X a ta) (hb : PD G F X b tb) : PD G F X (.IfExp c a b pos) (dIf u ta tb) :=
  PD.ofQ (pe_ifExp hc.pt ha.pe hb.pe) fun σ H r S s Qd Q g rp q k => LT.use g rp q fun v H' r' S' s' e1 g' rp' q' => by
    cases v with
    | true => exact LE.use g' rp' q' fun v2 H2 r2 S2 s2 d2 e2 g2 rp2 a2 q2 => k _ _ ⟨r2, S2, s2, d2, e1.trans e2, g2, rp2, a2, q2⟩
    | false => exact LE.use g' rp' q' fun v2 H2 r2 S2 s2 d2 e2 g2 rp2 a2 q2 => k _ _ ⟨r2, S2, s2, d2, e1.trans e2, g2, rp2, a2, q2⟩
/-- a op1 b op2 c -/
def dChain (rD rD' : R2d) (ta tb tc : TEd) : TEd := fun s Q => ta s fun x s1 => tb s1 fun y s2 => rD x y fun z => match z with
  | .bl k => if k = true then tc s2 fun w s3 => rD' y w fun d => Q d s3 else Q (.bl false) s2
  | _ => False
theorem tChain_of {rr rr' : R2} {rD rD' : R2d} (cc : OpD G rr rD) (cc' : OpD G rr' rD') {σ : L2.St} {H : Hp} {r : Rt} {S : Hp} {s : Sd} {Qd : D → Sd → Prop} {Q : VK} (g : Good G F r S H) (rp : Rep G F r S H σ s) (q : dChain rD rD' ta tb tc s Qd) (k : ∀ v H', Po G F σ r S Qd v H' → Q v H') :
    tChain rr rr' (LE G F ta) (LE G F tb) (LE G F tc) σ H Q :=
  LE.two g rp q fun x y H1 r1 S1 s1 dx dy e1 g1 rp1 ax ay q1 => cc F r1 S1 H1 x y dx dy _ _ g1 ax ay q1 fun z H2 p => by
    obtain ⟨S2, d, gr, az, q2⟩ := p
    cases az <;> try exact q2.elim
    rename_i kk
    refine ⟨kk, rfl, ?_⟩
    have g2 := g1.gro gr
    have rp2 := rp1.gro gr
    cases kk with
    | true =>
      refine LE.use g2 rp2 q2 fun w H3 r3 S3 s3 d3 e3 g3 rp3 a3 q3 => ?_
      exact cc' F r3 S3 H3 y w dy d3 _ _ g3 ((ay.mono gr.s (.refl _)).ext e3) a3 q3 fun v H4 p => k v H4 (p.po (e1.trans ((gr.ext _).trans e3)) g3 rp3)
    | false => exact k _ _ ⟨r1, S2, s1, _, e1.trans (gr.ext _), g2, rp2, .bl _, q2⟩
theorem pd_chain {op op' : CmpOp} {rr rr' : R2} {rD rD' : R2d} (cc : OpD G rr rD) (cc' : OpD G rr' rD') (ho : OpR X (compareOp op) rr) (ho' : OpR X (compareOp op') rr') (ha : PD G F X a ta) (hb : PD G F X b tb) (hc : PD G F X c tc)
    (hm : lastMarks [op, op'] [b, c] = false := by with_unfolding_all rfl) : PD G F X (.Compare a [op, op'] [b, c] pos) (dChain rD rD' ta tb tc) :=
  PD.ofQ (pe_chain ho ho' ha.pe hb.pe hc.pe hm) fun σ H r S s Qd Q g rp q k => tChain_of cc cc' g rp q k
theorem pdt_chain {op op' : CmpOp} {rr rr' : R2} {rD rD' : R2d} (cc : OpD G rr rD) (cc' : OpD G rr' rD') (ho : OpR X (compareOp op) rr) (ho' : OpR X (compareOp op') rr') (ha : PD G F X a ta) (hb : PD G F X b tb) (hc : PD G F X c tc)
    (hm : lastMarks [op, op'] [b, c] = false := by with_unfolding_all rfl) : PDT G F X (.Compare a [op, op'] [b, c] pos) (dB (dChain rD rD' ta tb tc)) :=
  PDT.ofQ (pt_chain ho ho' ha.pe hb.pe hc.pe hm) fun σ H r S s Qd Q g rp q k => tChain_of cc cc' g rp q fun v H' ⟨r', S', s', d, e1, g', rp', a1, q'⟩ => by
    cases a1 <;> try exact q'.elim
    exact ⟨_, rfl, k _ _ ⟨r', S', s', e1, g', rp', q'⟩⟩
theorem pd_leLe (ha : PD G F X a ta) (hb : PD G F X b tb) (hc : PD G F X c tc) (hm : lastMarks [.LtE, .LtE] [b, c] = false := by with_unfolding_all rfl) : PD G F X (.Compare a [.LtE, .LtE] [b, c] pos) (dChain rLeI rLeI ta tb tc) :=
  pd_chain (opD_int0 fun _ _ _ _ => .bl _) (opD_int0 fun _ _ _ _ => .bl _) op_le op_le ha hb hc hm
theorem pdt_leLe (ha : PD G F X a ta) (hb : PD G F X b tb) (hc : PD G F X c tc) (hm : lastMarks [.LtE, .LtE] [b, c] = false := by with_unfolding_all rfl) : PDT G F X (.Compare a [.LtE, .LtE] [b, c] pos) (dB (dChain rLeI rLeI ta tb tc)) :=
  pdt_chain (opD_int0 fun _ _ _ _ => .bl _) (opD_int0 fun _ _ _ _ => .bl _) op_le op_le ha hb hc hm

/-! ### in -/
def strIn (i j : Str) : Bool := !(Builtin.Str.occurrences j i 0 j.length 1).isEmpty
def inB (d : D) (ds : List D) : Bool := ds.any fun z => eqB z d
def rInS (f : Bool → Bool) : R2d := fun x y Q => match x, y with
  | .str i, .str j => Q (.bl (f (strIn i j)))
  | x, .tup ys => cmpOk x ∧ cmpOk (.tup ys) ∧ Q (.bl (f (inB x ys)))
  | x, .lst ys => cmpOk x ∧ cmpOk (.lst ys) ∧ Q (.bl (f (inB x ys)))
  | _, _ => False
theorem inB_eqv {d : D} (hd : okD d = true) : ∀ {ds : List D}, okAll ds = true → ((toPs ds).any fun z => PyData.eqv z (toP d)) = inB d ds
  | [], _ => rfl
  | x :: xs, h => by
    simp only [okAll, Bool.and_eq_true] at h
    have ih := inB_eqv hd h.2
    unfold inB at ih ⊢
    simp only [toPs, List.any_cons]
    rw [eqB_eqv x d h.1 hd, ih]
theorem room65 {n : Nat} {A : Around} (hr : Room n A) : A.units + 65 < cLine := by have := hr.un; omega
/-- x in a tuple of data -/
def rInT (K : PySem.W.Frag) (f : Bool → Bool) : R2 := fun x y H Q => ∃ d ds, Dp K H x d ∧ Dp K H y (.tuple ds) ∧ SeqAt.shaped d = true ∧ SeqAt.shaped (.tuple ds) = true ∧ Q (.bl (f (ds.any fun z => PyData.eqv z d))) H
theorem room_in_shapedT {A : Around} {d : PyData} {ds : List PyData} (sd : SeqAt.shaped d = true) (hu : A.units + 65 < cLine) : A.units + 1 + min (PyData.depthAll ds) d.depth < cLine := by
  have h : d.depth ≤ 64 := by
    unfold SeqAt.shaped at sd
    simp only [Bool.and_eq_true, decide_eq_true_eq] at sd
    exact sd.2
  have : min (PyData.depthAll ds) d.depth ≤ d.depth := Nat.min_le_right _ _
  omega
theorem op_inT (hu : X.A.units + 65 < cLine) : OpR X (compareOp .In) (rInT X.K fun b => b) := by
  intro pins s σ H x y v u Q I rx ry h
  obtain ⟨d, ds, hd, he, sd, se, q⟩ := h
  obtain ⟨as, r1⟩ := Dp.reads I d x v hd rx
  obtain ⟨bs, r2⟩ := Dp.reads I (.tuple ds) y u he ry
  exact SeqAt.in_tuple_reads r2 r1 (SeqAt.canLay_of_shaped se) (SeqAt.canLay_of_shaped sd) (room_in_shapedT sd hu) ⟨.bl _, H, I, rfl, q⟩
theorem op_notInT (hu : X.A.units + 65 < cLine) : OpR X (compareOp .NotIn) (rInT X.K fun b => !b) := by
  intro pins s σ H x y v u Q I rx ry h
  obtain ⟨d, ds, hd, he, sd, se, q⟩ := h
  obtain ⟨as, r1⟩ := Dp.reads I d x v hd rx
  obtain ⟨bs, r2⟩ := Dp.reads I (.tuple ds) y u he ry
  exact SeqAt.notIn_tuple_reads r2 r1 (SeqAt.canLay_of_shaped se) (SeqAt.canLay_of_shaped sd) (room_in_shapedT sd hu) ⟨.bl _, H, I, rfl, q⟩
def hIn (K : PySem.W.Frag) : R2 := fun x y H Q => (∃ i j, x = .str i ∧ y = .str j ∧ Q (.bl (!(Builtin.Str.occurrences j i 0 j.length 1).isEmpty)) H) ∨ rInD K x y H Q ∨ rInT K (fun b => b) x y H Q
def hNotIn (K : PySem.W.Frag) : R2 := fun x y H Q => (∃ i j, x = .str i ∧ y = .str j ∧ Q (.bl (!(!(Builtin.Str.occurrences j i 0 j.length 1).isEmpty))) H) ∨ rNotInD K x y H Q ∨ rInT K (fun b => !b) x y H Q
theorem opD_in {K : PySem.W.Frag} (hK : K = G.K) : OpD G (hIn K) (rInS fun b => b) := by
  subst hK
  intro F r S H x y dx dy Qd Q g ax ay q k
  cases ay with
  | str j => cases ax <;> first | exact q.elim | exact .inl ⟨_, _, rfl, rfl, k _ _ (.same g (.bl _) q)⟩
  | tup h1 z1 a1 =>
    rename_i ys
    have q' : cmpOk dx ∧ cmpOk (.tup ys) ∧ Qd (.bl (inB dx ys)) := by cases ax <;> exact q
    obtain ⟨c1, c2, q2⟩ := q'
    refine .inr (.inr ⟨toP dx, _, dp_sub g.sub (ax.dp c1.1), dp_sub g.sub ((DAt.tup h1 z1 a1).dp c2.1), c1.shaped, c2.shaped, k _ _ (.same g (.bl _) ?_)⟩)
    rw [inB_eqv c1.1 (by have := c2.1; simpa [okD] using this)]
    exact q2
  | lst h1 z1 a1 =>
    rename_i ys
    have q' : cmpOk dx ∧ cmpOk (.lst ys) ∧ Qd (.bl (inB dx ys)) := by cases ax <;> exact q
    obtain ⟨c1, c2, q2⟩ := q'
    refine .inr (.inl ⟨toP dx, _, dp_sub g.sub (ax.dp c1.1), dp_sub g.sub ((DAt.lst h1 z1 a1).dp c2.1), c1.shaped, c2.shaped, k _ _ (.same g (.bl _) ?_)⟩)
    rw [inB_eqv c1.1 (by have := c2.1; simpa [okD] using this)]
    exact q2
  | _ => cases ax <;> exact q.elim
theorem opD_notIn {K : PySem.W.Frag} (hK : K = G.K) : OpD G (hNotIn K) (rInS fun b => !b) := by
  subst hK
  intro F r S H x y dx dy Qd Q g ax ay q k
  cases ay with
  | str j => cases ax <;> first | exact q.elim | exact .inl ⟨_, _, rfl, rfl, k _ _ (.same g (.bl _) q)⟩
  | tup h1 z1 a1 =>
    rename_i ys
    have q' : cmpOk dx ∧ cmpOk (.tup ys) ∧ Qd (.bl (!inB dx ys)) := by cases ax <;> exact q
    obtain ⟨c1, c2, q2⟩ := q'
    refine .inr (.inr ⟨toP dx, _, dp_sub g.sub (ax.dp c1.1), dp_sub g.sub ((DAt.tup h1 z1 a1).dp c2.1), c1.shaped, c2.shaped, k _ _ (.same g (.bl _) ?_)⟩)
    rw [inB_eqv c1.1 (by have := c2.1; simpa [okD] using this)]
    exact q2
  | lst h1 z1 a1 =>
    rename_i ys
    have q' : cmpOk dx ∧ cmpOk (.lst ys) ∧ Qd (.bl (!inB dx ys)) := by cases ax <;> exact q
    obtain ⟨c1, c2, q2⟩ := q'
    refine .inr (.inl ⟨toP dx, _, dp_sub g.sub (ax.dp c1.1), dp_sub g.sub ((DAt.lst h1 z1 a1).dp c2.1), c1.shaped, c2.shaped, k _ _ (.same g (.bl _) ?_)⟩)
    rw [inB_eqv c1.1 (by have := c2.1; simpa [okD] using this)]
    exact q2
  | _ => cases ax <;> exact q.elim
theorem op_inA {n : Nat} (hr : Room n X.A) : OpR X (compareOp .In) (hIn X.K) := op_in_str.or ((op_inD (room65 hr)).or (op_inT (room65 hr)))
theorem op_notInA {n : Nat} (hr : Room n X.A) : OpR X (compareOp .NotIn) (hNotIn X.K) := op_notIn_str.or ((op_notInD (room65 hr)).or (op_notInT (room65 hr)))
theorem pd_in {n : Nat} (hr : Room n X.A) (ha : PD G F X a ta) (hb : PD G F X b tb) (hm : behindInMarks .In b = false := by rfl) (hK : X.K = G.K := by rfl) : PD G F X (.Compare a [.In] [b] pos) (dOp (rInS fun b => b) ta tb) := pd_cmp (opD_in hK) (op_inA hr) ha hb hm
theorem pd_notIn {n : Nat} (hr : Room n X.A) (ha : PD G F X a ta) (hb : PD G F X b tb) (hm : behindInMarks .NotIn b = false := by rfl) (hK : X.K = G.K := by rfl) : PD G F X (.Compare a [.NotIn] [b] pos) (dOp (rInS fun b => !b) ta tb) := pd_cmp (opD_notIn hK) (op_notInA hr) ha hb hm
theorem pdt_in {n : Nat} (hr : Room n X.A) (ha : PD G F X a ta) (hb : PD G F X b tb) (hm : behindInMarks .In b = false := by rfl) (hK : X.K = G.K := by rfl) : PDT G F X (.Compare a [.In] [b] pos) (dB (dOp (rInS fun b => b) ta tb)) := pdt_cmp (opD_in hK) (op_inA hr) ha hb hm
theorem pdt_notIn {n : Nat} (hr : Room n X.A) (ha : PD G F X a ta) (hb : PD G F X b tb) (hm : behindInMarks .NotIn b = false := by rfl) (hK : X.K = G.K := by rfl) : PDT G F X (.Compare a [.NotIn] [b] pos) (dB (dOp (rInS fun b => !b) ta tb)) := pdt_cmp (opD_notIn hK) (op_notInA hr) ha hb hm
theorem pdt_eq {n : Nat} (hr : Room n X.A) (ha : PD G F X a ta) (hb : PD G F X b tb) (hK : X.K = G.K := by rfl) : PDT G F X (.Compare a [.Eq] [b] pos) (dB (dOp rEq ta tb)) := pdt_cmp (opD_eq hK) (op_eqD hr.units) ha hb (nomark _)
theorem pdt_ne {n : Nat} (hr : Room n X.A) (ha : PD G F X a ta) (hb : PD G F X b tb) (hK : X.K = G.K := by rfl) : PDT G F X (.Compare a [.NotEq] [b] pos) (dB (dOp rNe ta tb)) := pdt_cmp (opD_ne hK) (op_neD hr.units) ha hb (nomark _)
theorem pdt_lt (ha : PD G F X a ta) (hb : PD G F X b tb) : PDT G F X (.Compare a [.Lt] [b] pos) (dB (dOp rLtI ta tb)) := pdt_cmp (opD_int0 fun _ _ _ _ => .bl _) op_lt ha hb (nomark _)
theorem pdt_le (ha : PD G F X a ta) (hb : PD G F X b tb) : PDT G F X (.Compare a [.LtE] [b] pos) (dB (dOp rLeI ta tb)) := pdt_cmp (opD_int0 fun _ _ _ _ => .bl _) op_le ha hb (nomark _)
theorem pdt_gt (ha : PD G F X a ta) (hb : PD G F X b tb) : PDT G F X (.Compare a [.Gt] [b] pos) (dB (dOp rGtI ta tb)) := pdt_cmp (opD_int0 fun _ _ _ _ => .bl _) op_gt ha hb (nomark _)
theorem pdt_ge (ha : PD G F X a ta) (hb : PD G F X b tb) : PDT G F X (.Compare a [.GtE] [b] pos) (dB (dOp rGeI ta tb)) := pdt_cmp (opD_int0 fun _ _ _ _ => .bl _) op_ge ha hb (nomark _)
theorem opD_isN {K : PySem.W.Frag} : OpD G (fun x y H Q => y = .non ∧ Q (.bl (decide (x = .non))) H) rIsN := fun F r S H x y dx dy Qd Q g ax ay q k => by
  cases ay <;> try exact q.elim
  exact ⟨rfl, k _ _ (.same g (.bl _) (by rw [isNon_eq ax]; exact q))⟩
theorem opD_notN {K : PySem.W.Frag} : OpD G (fun x y H Q => y = .non ∧ Q (.bl (!decide (x = .non))) H) rNotN := fun F r S H x y dx dy Qd Q g ax ay q k => by
  cases ay <;> try exact q.elim
  exact ⟨rfl, k _ _ (.same g (.bl _) (by rw [isNon_eq ax]; exact q))⟩
theorem pdt_isN (ha : PD G F X a ta) (hb : PD G F X b tb) : PDT G F X (.Compare a [.Is] [b] pos) (dB (dOp rIsN ta tb)) := pdt_cmp (opD_isN (K := X.K)) op_isN ha hb (nomark _)
theorem pdt_notN (ha : PD G F X a ta) (hb : PD G F X b tb) : PDT G F X (.Compare a [.IsNot] [b] pos) (dB (dOp rNotN ta tb)) := pdt_cmp (opD_notN (K := X.K)) op_notN ha hb (nomark _)
theorem opD_bl2 {f : Bool → Bool → Bool} : OpD G (fun x y H Q => ∃ a b : Bool, x = .bl a ∧ y = .bl b ∧ Q (.bl (f a b)) H) (rBl2 f) := fun F r S H x y dx dy Qd Q g ax ay q k => by
  cases ax <;> cases ay <;> try exact q.elim
  exact ⟨_, _, rfl, rfl, k _ _ (.same g (.bl _) q)⟩
theorem pdt_isB (ha : PD G F X a ta) (hb : PD G F X b tb) : PDT G F X (.Compare a [.Is] [b] pos) (dB (dOp (rBl2 fun i j => decide (i = j)) ta tb)) := pdt_cmp opD_bl2 op_isBl ha hb (nomark _)
theorem pdt_notB (ha : PD G F X a ta) (hb : PD G F X b tb) : PDT G F X (.Compare a [.IsNot] [b] pos) (dB (dOp (rBl2 fun i j => !decide (i = j)) ta tb)) := pdt_cmp opD_bl2 op_notBl ha hb (nomark _)

/-! ### subscripts -/
def rIxD : R2d := fun x y Q => match x, y with
  | .tup xs, .int i => (match atI xs i with | some d => Q d | none => False)
  | .lst xs, .int i => (match atI xs i with | some d => Q d | none => False)
  | .str z, .int i => z.length ≤ sizeLine ∧ (match atI z.cps.toList i with | some c => Q (.str ⟨#[c]⟩) | none => False)
  | _, _ => False
theorem atI_vals {r : Rt} {S : Hp} {vs : List V} {ds : List D} {i : Int} {d : D} (a : DAts G r S vs ds) (h : atI ds i = some d) : ∃ v, atI vs i = some v ∧ DAt G r S v d := by
  unfold atI at h ⊢
  rw [a.length]
  cases e : ixN ds.length i with
  | none => rw [e] at h; cases h
  | some j =>
    rw [e] at h
    exact a.get h
theorem opD_ix {K : PySem.W.Frag} (hK : K = G.K) : OpD G (rIx K) rIxD := by
  subst hK
  intro F r S H x y dx dy Qd Q g ax ay q k
  cases ax with
  | tup h1 z1 a1 =>
    cases ay <;> try exact q.elim
    rename_i vs ds i
    have q' : match atI ds i with | some d => Qd d | none => False := q
    cases e : atI ds i with
    | none => rw [e] at q'; exact q'.elim
    | some d =>
      rw [e] at q'
      obtain ⟨v, e1, a2⟩ := atI_vals a1 e
      exact .inr (.inl ⟨_, vs, i, v, rfl, rfl, sqT_sub g.sub h1, e1, k _ _ (.same g a2 q')⟩)
  | lst h1 z1 a1 =>
    cases ay <;> try exact q.elim
    rename_i vs ds i
    have q' : match atI ds i with | some d => Qd d | none => False := q
    cases e : atI ds i with
    | none => rw [e] at q'; exact q'.elim
    | some d =>
      rw [e] at q'
      obtain ⟨v, e1, a2⟩ := atI_vals a1 e
      exact .inl ⟨_, vs, i, v, rfl, rfl, SqL.of (g.sub _ _ h1), e1, k _ _ (.same g a2 q')⟩
  | str z =>
    cases ay <;> try exact q.elim
    rename_i i
    have q' : z.length ≤ sizeLine ∧ (match atI z.cps.toList i with | some c => Qd (.str ⟨#[c]⟩) | none => False) := q
    obtain ⟨hz, q'⟩ := q'
    cases e : atI z.cps.toList i with
    | none => rw [e] at q'; exact q'.elim
    | some c =>
      rw [e] at q'
      exact .inr (.inr ⟨z, i, c, rfl, rfl, hz, e, k _ _ (.same g (.str _) q')⟩)
  | _ => cases ay <;> exact q.elim
theorem pd_ix (ha : PD G F X a ta) (hb : PD G F X b tb) (hs : PlainIx b := by intro _ _; rfl) (hK : X.K = G.K := by rfl) : PD G F X (.Subscript a b pos) (dOp rIxD ta tb) :=
  PD.ofQ (pe_ix (ix_seq (X := X)) ha.pe hb.pe hs) fun σ H r S s Qd Q g rp q k => tOp_of (opD_ix hK) g rp q k

/-! ### slices -/
abbrev TOd := Sd → (Option Int → Sd → Prop) → Prop
def LO (G : Cw) (F : Frm) (t : TOd) : TO := fun σ H Q => ∃ r S s Qd, Good G F r S H ∧ Rep G F r S H σ s ∧ t s Qd ∧ ∀ o H' r' S' s', Ext r S r' S' → Good G F r' S' H' → Rep G F r' S' H' σ s' → Qd o s' → Q o H'
structure PDO (G : Cw) (F : Frm) (X : Cx) (e : Option Expr) (t : TOd) : Prop where po : PO X e (LO G F t)
def dNoPart : TOd := fun s Q => Q none s
def dPart (t : TEd) : TOd := fun s Q => t s fun x s1 => match x with
  | .int i => Q (some i) s1
  | _ => False
theorem PO.imp {X : Cx} {e : Option Expr} {t t' : TO} (h : PO X e t) (i : ∀ σ H Q, t' σ H Q → t σ H Q) : PO X e t' := ⟨fun pins s σ H Q I q => h.run pins s σ H Q I (i _ _ _ q)⟩
theorem pdo_none : PDO G F X none dNoPart := ⟨PO.imp po_none fun σ H Q ⟨r, S, s, Qd, g, rp, q, k⟩ => k _ _ r S s (.refl _ _) g rp q⟩
theorem pdo_some (h : PD G F X e t) : PDO G F X (some e) (dPart t) := ⟨PO.imp (po_some h.pe) fun σ H Q ⟨r, S, s, Qd, g, rp, q, k⟩ => LE.use g rp q fun v H' r' S' s' d e1 g' rp' a q' => by
  cases a <;> try exact q'.elim
  exact ⟨_, rfl, k _ _ r' S' s' e1 g' rp' q'⟩⟩
def cutD (xs : List D) (lo hi : Option Int) : List D := (xs.drop (HT.sIx xs.length 0 lo)).take (HT.sIx xs.length xs.length hi - HT.sIx xs.length 0 lo)
theorem cutD_vals {r : Rt} {S : Hp} {vs : List V} {ds : List D} (a : DAts G r S vs ds) (lo hi : Option Int) : DAts G r S (cutV vs lo hi) (cutD ds lo hi) := by
  unfold cutV cutD
  rw [a.length]
  exact (a.drop _).take _
def rSlD : D → Option Int → Option Int → (D → Prop) → Prop := fun x lo hi Q => match x with
  | .tup xs => Q (.tup (cutD xs lo hi))
  | .str z => z.length ≤ sizeLine ∧ Q (.str (cutS z lo hi))
  | _ => False
def dSl (rD : D → Option Int → Option Int → (D → Prop) → Prop) (t : TEd) (tl th : TOd) : TEd := fun s Q => t s fun x s1 => tl s1 fun l s2 => th s2 fun h s3 => rD x l h fun d => Q d s3
theorem cut_whole {xs : List D} {lo hi : Option Int} (h : HT.sIx xs.length 0 lo = 0 ∧ HT.sIx xs.length xs.length hi = xs.length) : cutD xs lo hi = xs := by
  unfold cutD
  rw [h.1, h.2]
  simp
theorem LO.use {σ : L2.St} {H : Hp} {r : Rt} {S : Hp} {s : Sd} {t : TOd} {Qd : Option Int → Sd → Prop} {Q : Option Int → Hp → Prop} (g : Good G F r S H) (rp : Rep G F r S H σ s) (q : t s Qd) (k : ∀ v H' r' S' s', Ext r S r' S' → Good G F r' S' H' → Rep G F r' S' H' σ s' → Qd v s' → Q v H') : LO G F t σ H Q :=
  ⟨r, S, s, Qd, g, rp, q, fun v H' r' S' s' e g' rp' q' => k v H' r' S' s' e g' rp' q'⟩
theorem pd_slice {lo hi : Option Expr} {tl th : TOd} {p2 : Pos} (he : PD G F X e t) (hl : PDO G F X lo tl) (hu : PDO G F X hi th) (hK : X.K = G.K := by rfl) : PD G F X (.Subscript e (.Slice lo hi none p2) pos) (dSl rSlD t tl th) :=
  PD.ofQ (pe_slice ((sl_tupA (X := X)).or (sl_str (X := X))) he.pe hl.po hu.po) fun σ H r S s Qd Q g rp q k => LE.use g rp q fun x H1 r1 S1 s1 d e1 g1 rp1 a1 q1 => LO.use g1 rp1 q1 fun l H2 r2 S2 s2 e2 g2 rp2 q2 => LO.use g2 rp2 q2 fun h H3 r3 S3 s3 e3 g3 rp3 q3 => by
    have a3 := (a1.ext e2).ext e3
    have ee := e1.trans (e2.trans e3)
    cases a3 with
    | str z => exact .inr ⟨z, rfl, q3.1, k _ _ ⟨r3, S3, s3, _, ee, g3, rp3, .str _, q3.2⟩⟩
    | tup h1 z1 b1 =>
      rename_i vs ds
      refine .inl ⟨_, vs, rfl, by rw [hK]; exact sqT_sub g3.sub h1, fun w => ?_, fun w p hp => ?_⟩
      · rw [b1.length] at w
        have q3' : Qd (.tup (cutD ds l h)) s3 := q3
        rw [cut_whole w] at q3'
        exact k _ _ ⟨r3, S3, s3, _, ee, g3, rp3, .tup h1 z1 b1, q3'⟩
      · exact k _ _ (Pv.po ee g3 rp3 (.tup g3 hp (Nat.le_trans (cutV_length _ _ _) z1) (cutD_vals b1 l h) q3))
    | _ => exact q3.elim

/-! ### argument lists, displays -/
def dNil : TAd := fun s Q => Q [] s
def dCons (t : TEd) (tr : TAd) : TAd := fun s Q => t s fun x s1 => tr s1 fun xs s2 => Q (x :: xs) s2
theorem PDA.ofQ {te : TA} {t : TAd} (h : PA X es te) (i : ∀ σ H r S s Qd Q, Good G F r S H → Rep G F r S H σ s → t s Qd → (∀ v H', PoA G F σ r S Qd v H' → Q v H') → te σ H Q) : PDA G F X es t :=
  ⟨PA.imp h fun σ H Q ⟨r, S, s, Qd, g, rp, q, k⟩ => i σ H r S s Qd Q g rp q k⟩
theorem pda_nil : PDA G F X [] dNil := PDA.ofQ pa_nil fun σ H r S s Qd Q g rp q k => k _ _ ⟨r, S, s, [], .refl _ _, g, rp, .nil, q⟩
theorem pda_cons {tr : TAd} (ha : PD G F X e t) (hr : PDA G F X es tr) (hs : starEach (e :: es) X.env = (false, eval e X.env) :: starEach es X.env := by rfl) : PDA G F X (e :: es) (dCons t tr) :=
  PDA.ofQ (pa_cons ha.pe hr.pa hs) fun σ H r S s Qd Q g rp q k => LE.use g rp q fun x H1 r1 S1 s1 d e1 g1 rp1 a1 q1 => LA.use g1 rp1 q1 fun xs H2 r2 S2 s2 ds e2 g2 rp2 a2 q2 =>
    k _ _ ⟨r2, S2, s2, d :: ds, e1.trans e2, g2, rp2, .cons (a1.ext e2) a2, q2⟩
def dTup (t : TAd) : TEd := fun s Q => t s fun xs s1 => xs.length ≤ sizeLine ∧ Q (.tup xs) s1
theorem pd_tup {tr : TAd} {x1} (h : PDA G F X es tr) : PD G F X (.Tuple es x1 pos) (dTup tr) :=
  PD.ofQ (pe_tup h.pa) fun σ H r S s Qd Q g rp q k => LA.use g rp q fun xs H1 r1 S1 s1 ds e1 g1 rp1 a1 q1 =>
    ⟨by rw [a1.length]; exact q1.1, fun p hp => k _ _ (Pv.po e1 g1 rp1 (.tup g1 hp (by rw [a1.length]; exact q1.1) a1 q1.2))⟩
/-- a fresh list -/
theorem PDF.ofQ {te : TE} {t : TAd} (h : PE X e te) (i : ∀ σ H r S s Qd Q, Good G F r S H → Rep G F r S H σ s → t s Qd → (∀ v H', PoF G F σ r S Qd v H' → Q v H') → te σ H Q) : PDF G F X e t :=
  ⟨PE.imp h fun σ H Q ⟨r, S, s, Qd, g, rp, q, k⟩ => i σ H r S s Qd Q g rp q k⟩
theorem PoF.new {σ : L2.St} {H : Hp} {r r1 : Rt} {S S1 : Hp} {s : Sd} {Qd : List D → Sd → Prop} {p : Addr} {vs : List V} {ds : List D} (e : Ext r S r1 S1) (g : Good G F r1 S1 H) (rp : Rep G F r1 S1 H σ s) (hp : H p = none) (hz : vs.length ≤ sizeLine) (a : DAts G r1 S1 vs ds) (q : Qd ds s) :
    PoF G F σ r S Qd (.ref p) (upd H p (.lst vs)) := by
  have gr : Gro S1 H S1 (upd H p (.lst vs)) := .loose g.sub hp
  have hF : F.H p = none := by
    cases eF : F.H p with
    | none => rfl
    | some o =>
      by_cases hb : F.r.bag = some p
      · obtain ⟨_, _, _, _, _, _, _, q, _⟩ := g.bag p (g.rF p hb)
        rw [hp] at q; cases q
      · rw [g.keep p o eF hb] at hp; cases hp
  have hb : r1.bag ≠ some p := fun z => by
    obtain ⟨_, _, _, _, _, _, _, q, _⟩ := g.bag p z
    rw [hp] at q; cases q
  have hS : S1 p = none := by
    cases eS : S1 p with
    | none => rfl
    | some o => rw [g.sub p o eS] at hp; cases hp
  refine ⟨r1, S1, s, p, ds, e, g.gro gr, rp.gro gr, rfl, ⟨⟨vs, upd_same, hz, a⟩, hS, hF, hb⟩, fun j es e1 e2 => ?_, q⟩
  obtain ⟨l, e3, o⟩ := rp.own e1
  rw [gv_some] at e2
  rw [e2] at e3
  cases e3
  obtain ⟨ws, h1, _⟩ := o.ex
  rw [hp] at h1; cases h1
def dFr (t : TAd) : TEd := fun s Q => t s fun ds s1 => Q (.lst ds) s1
theorem pd_fresh {tr : TAd} (h : PDF G F X e tr) : PD G F X e (dFr tr) :=
  ⟨PE.imp h.pe fun σ H Q ⟨r, S, s, Qd, g, rp, q, k⟩ => ⟨r, S, s, _, g, rp, q, fun v H' ⟨r', S', s', l, ds, e1, g', rp', ev, o, no, q'⟩ => by
    subst ev
    obtain ⟨vs, hl, hz, a⟩ := o.ex
    obtain ⟨g2, ex⟩ := g'.freeze o hl
    refine k _ _ ⟨r', _, s', .lst ds, e1.trans ex, g2, ?_, .lst upd_same hz (a.ext ex), q'⟩
    refine rp'.mono ex fun i m es e2 e3 o2 => ⟨rfl, ?_, o2.b⟩
    rw [upd_ne]
    · exact o2.s
    · rintro rfl
      exact no i es e2 e3⟩⟩
def dLst (tr : TAd) : TAd := fun s Q => tr s fun xs s1 => xs.length ≤ sizeLine ∧ Q xs s1
theorem pdf_lst {tr : TAd} (h : PDA G F X es tr) : PDF G F X (.List es pos) (dLst tr) :=
  PDF.ofQ (pe_lst h.pa) fun σ H r S s Qd Q g rp q k => LA.use g rp q fun xs H1 r1 S1 s1 ds e1 g1 rp1 a1 q1 =>
    ⟨by rw [a1.length]; exact q1.1, fun p hp => k _ _ (PoF.new e1 g1 rp1 hp (by rw [a1.length]; exact q1.1) a1 q1.2)⟩

/-! ### built-ins by values -/
abbrev RLd := List D → (D → Prop) → Prop
def CallD (G : Cw) (rr : List V → Hp → VK → Prop) (rD : RLd) : Prop := ∀ F r S H vs ds Qd Q, Good G F r S H → DAts G r S vs ds → rD ds Qd → (∀ v H', Pv G F r S H Qd v H' → Q v H') → rr vs H Q
def dCB (rD : RLd) (t : TAd) : TEd := fun s Q => t s fun xs s1 => rD xs fun d => Q d s1
theorem tCB_of {rr : List V → Hp → VK → Prop} {rD : RLd} {tr : TAd} (cc : CallD G rr rD) {σ : L2.St} {H : Hp} {r : Rt} {S : Hp} {s : Sd} {Qd : D → Sd → Prop} {Q : VK} (g : Good G F r S H) (rp : Rep G F r S H σ s) (q : dCB rD tr s Qd) (k : ∀ v H', Po G F σ r S Qd v H' → Q v H') : tCB rr (LA G F tr) σ H Q :=
  LA.use g rp q fun xs H1 r1 S1 s1 ds e1 g1 rp1 a1 q1 => cc F r1 S1 H1 xs ds _ _ g1 a1 q1 fun v H2 p => k v H2 (p.po e1 g1 rp1)
theorem pd_callB {x : Str} {p : Pos} {id : String} {rr : List V → Hp → VK → Prop} {rD : RLd} {tr : TAd} (cc : CallD G rr rD) (hc : CallR X (.builtin id) rr) (hg : Gl X x) (hm : X.mg x = none) (hv : bootBuiltins x = some (.builtin id)) (ha : PDA G F X (e :: es) tr) (hn : x ≠ "__name__" := by decide) (hdb : (x == ("__debug__" : Str)) = false := by decide)
    (he : starEach (e :: es) X.env = (false, eval e X.env) :: starEach es X.env := by rfl) (hpl : (backTo pos (starEach es X.env)).any (·.1) = false := by rfl) : PD G F X (.Call (.Name x p) (e :: es) [] pos) (dCB rD tr) :=
  PD.ofQ (pe_callB hc hg hm hv ha.pa hn hdb he hpl) fun σ H r S s Qd Q g rp q k => tCB_of cc g rp q k
theorem pd_callTy {x : Str} {p : Pos} {T : String} {rr : List V → Hp → VK → Prop} {rD : RLd} {tr : TAd} (cc : CallD G rr rD) (hc : CallR X (.type T) rr) (hg : Gl X x) (hm : X.mg x = none) (hv : bootBuiltins x = some (.type T)) (ha : PDA G F X (e :: es) tr) (hn : x ≠ "__name__" := by decide) (hdb : (x == ("__debug__" : Str)) = false := by decide)
    (he : starEach (e :: es) X.env = (false, eval e X.env) :: starEach es X.env := by rfl) (hpl : (backTo pos (starEach es X.env)).any (·.1) = false := by rfl) : PD G F X (.Call (.Name x p) (e :: es) [] pos) (dCB rD tr) :=
  PD.ofQ (pe_callTy hc hg hm hv ha.pa hn hdb he hpl) fun σ H r S s Qd Q g rp q k => tCB_of cc g rp q k
/-- len -/
def rLen : RLd := fun ds Q => match ds with
  | [.tup xs] => Q (.int xs.length)
  | [.lst xs] => Q (.int xs.length)
  | [.str z] => z.length ≤ sizeLine ∧ Q (.int z.length)
  | _ => False
theorem cD_len {K : PySem.W.Frag} (hK : K = G.K) : CallD G (fun xs H Q => ∃ x n, xs = [x] ∧ LenV K x H n ∧ Q (.int n) H) rLen := by
  subst hK
  intro F r S H vs ds Qd Q g a q k
  cases a with
  | nil => exact q.elim
  | cons h t =>
    cases t with
    | cons _ _ => cases h <;> exact q.elim
    | nil =>
      cases h with
      | tup h1 z1 a1 => exact ⟨_, _, rfl, .inr ⟨_, sqT_sub g.sub h1, rfl⟩, k _ _ (.same g (.int _) (by rw [a1.length]; exact q))⟩
      | lst h1 z1 a1 => exact ⟨_, _, rfl, .inl ⟨_, SqL.of (g.sub _ _ h1), rfl⟩, k _ _ (.same g (.int _) (by rw [a1.length]; exact q))⟩
      | str z => exact ⟨_, _, rfl, ⟨q.1, rfl⟩, k _ _ (.same g (.int _) q.2)⟩
      | _ => exact q.elim
theorem pd_len {p : Pos} {tr : TAd} (hg : Gl X "len") (hm : X.mg "len" = none) (ha : PDA G F X [e] tr) (hK : X.K = G.K := by rfl) (he : starEach [e] X.env = (false, eval e X.env) :: starEach [] X.env := by rfl) (hpl : (backTo pos (starEach [] X.env)).any (·.1) = false := by rfl) : PD G F X (.Call (.Name "len" p) [e] [] pos) (dCB rLen tr) :=
  pd_callB (cD_len hK) call_len hg hm PySem.boot_len ha (he := he) (hpl := hpl)
def rAbs : RLd := fun ds Q => match ds with
  | [.int i] => Q (.int (if i < 0 then -i else i))
  | _ => False
theorem cD_abs : CallD G (fun xs H Q => ∃ i, xs = [.int i] ∧ Q (.int (if i < 0 then -i else i)) H) rAbs := by
  intro F r S H vs ds Qd Q g a q k
  cases a with
  | nil => exact q.elim
  | cons h t =>
    cases t with
    | cons _ _ => cases h <;> exact q.elim
    | nil =>
      cases h <;> try exact q.elim
      exact ⟨_, rfl, k _ _ (.same g (.int _) q)⟩
/-- int(n), int(flag) -/
def rIntT : RLd := fun ds Q => match ds with
  | [.int i] => Q (.int i)
  | [.bl k] => Q (.int (if k = true then 1 else 0))
  | _ => False
theorem cD_int : CallD G (fun xs H Q => (∃ i, xs = [.int i] ∧ Q (.int i) H) ∨ ∃ k, xs = [.bl k] ∧ Q (.int (if k then 1 else 0)) H) rIntT := by
  intro F r S H vs ds Qd Q g a q k
  cases a with
  | nil => exact q.elim
  | cons h t =>
    cases t with
    | cons _ _ => cases h <;> exact q.elim
    | nil =>
      cases h with
      | int i => exact .inl ⟨_, rfl, k _ _ (.same g (.int _) q)⟩
      | bl b => exact .inr ⟨_, rfl, k _ _ (.same g (.int _) q)⟩
      | _ => exact q.elim
/-- str(n) -/
def rStrT : RLd := fun ds Q => match ds with
  | [.int i] => i.natAbs.log2 < 1920 ∧ Q (.str (toString i))
  | _ => False
theorem cD_str : CallD G (fun xs H Q => ∃ i, xs = [.int i] ∧ i.natAbs.log2 < 1920 ∧ Q (.str (toString i)) H) rStrT := by
  intro F r S H vs ds Qd Q g a q k
  cases a with
  | nil => exact q.elim
  | cons h t =>
    cases t with
    | cons _ _ => cases h <;> exact q.elim
    | nil =>
      cases h <;> try exact q.elim
      exact ⟨_, rfl, q.1, k _ _ (.same g (.str _) q.2)⟩
/-- tuple(x) -/
def rTupT : RLd := fun ds Q => match ds with
  | [.tup xs] => Q (.tup xs)
  | [.lst xs] => Q (.tup xs)
  | _ => False
theorem cD_tup {K : PySem.W.Frag} (hK : K = G.K) : CallD G (fun xs H Q => ∃ p ys, xs = [.ref p] ∧ ((SqL K H p ys ∧ ∀ l, H l = none → Q (.ref l) (upd H l (.tup ys))) ∨ (SqT K H p ys ∧ Q (.ref p) H))) rTupT := by
  subst hK
  intro F r S H vs ds Qd Q g a q k
  cases a with
  | nil => exact q.elim
  | cons h t =>
    cases t with
    | cons _ _ => cases h <;> exact q.elim
    | nil =>
      cases h with
      | tup h1 z1 a1 => exact ⟨_, _, rfl, .inr ⟨sqT_sub g.sub h1, k _ _ (.same g (.tup h1 z1 a1) q)⟩⟩
      | lst h1 z1 a1 => exact ⟨_, _, rfl, .inl ⟨SqL.of (g.sub _ _ h1), fun l hl => k _ _ (.tup g hl z1 a1 q)⟩⟩
      | _ => exact q.elim
/-- list(x): a fresh list -/
def rListOf : List D → (List D → Prop) → Prop := fun ds Q => match ds with
  | [.tup xs] => Q xs
  | [.lst xs] => Q xs
  | _ => False
def dListOf (tr : TAd) : TAd := fun s Q => tr s fun xs s1 => rListOf xs fun ds => Q ds s1
theorem pdf_list {p : Pos} {tr : TAd} (hg : Gl X "list") (hm : X.mg "list" = none) (hv : bootBuiltins "list" = some (.type "list")) (ha : PDA G F X [e] tr) (hK : X.K = G.K := by rfl) (he : starEach [e] X.env = (false, eval e X.env) :: starEach [] X.env := by rfl) (hpl : (backTo pos (starEach [] X.env)).any (·.1) = false := by rfl) :
    PDF G F X (.Call (.Name "list" p) [e] [] pos) (dListOf tr) :=
  PDF.ofQ (pe_callTy call_list_of hg hm hv ha.pa (he := he) (hpl := hpl)) fun σ H r S s Qd Q g rp q k => LA.use g rp q fun xs H1 r1 S1 s1 ds e1 g1 rp1 a1 q1 => by
    cases a1 with
    | nil => exact q1.elim
    | cons h t =>
      cases t with
      | cons _ _ => cases h <;> exact q1.elim
      | nil =>
        cases h with
        | tup h1 z1 a1 => exact ⟨_, _, rfl, .inr (by rw [hK]; exact sqT_sub g1.sub h1), fun l hl => k _ _ (PoF.new e1 g1 rp1 hl z1 a1 q1)⟩
        | lst h1 z1 a1 => exact ⟨_, _, rfl, .inl (SqL.of (g1.sub _ _ h1)), fun l hl => k _ _ (PoF.new e1 g1 rp1 hl z1 a1 q1)⟩
        | _ => exact q1.elim
/-- all, any of a list of truths -/
def asBls : List D → Option (List Bool)
  | [] => some []
  | .bl k :: r => (asBls r).map (k :: ·)
  | _ => none
theorem asBls_vals {r : Rt} {S : Hp} : ∀ {vs : List V} {ds : List D} {bs : List Bool}, DAts G r S vs ds → asBls ds = some bs → vs = bs.map V.bl
  | _, _, bs, .nil, e => by cases e; rfl
  | _, _, bs, .cons h t, e => by
    cases h <;> try (simp [asBls] at e)
    obtain ⟨b2, e2, rfl⟩ := e
    rw [asBls_vals t e2, List.map_cons]
def rAllB (f : List Bool → Bool) : RLd := fun ds Q => match ds with
  | [.lst xs] => (match asBls xs with | some bs => Q (.bl (f bs)) | none => False)
  | _ => False
theorem cD_bls {K : PySem.W.Frag} {f : List Bool → Bool} (hK : K = G.K) : CallD G (fun vs H Q => ∃ (a : Addr) (bs : List Bool), vs = [V.ref a] ∧ SqL K H a (bs.map V.bl) ∧ Q (.bl (f bs)) H) (rAllB f) := by
  subst hK
  intro F r S H vs ds Qd Q g a q k
  cases a with
  | nil => exact q.elim
  | cons h t =>
    cases t with
    | cons _ _ => cases h <;> exact q.elim
    | nil =>
      cases h with
      | lst h1 z1 a1 =>
        rename_i vs ds
        have q' : match asBls ds with | some bs => Qd (.bl (f bs)) | none => False := q
        cases e : asBls ds with
        | none => rw [e] at q'; exact q'.elim
        | some bs =>
          rw [e] at q'
          refine ⟨_, bs, rfl, ?_, k _ _ (.same g (.bl _) q')⟩
          rw [← asBls_vals a1 e]
          exact SqL.of (g.sub _ _ h1)
      | _ => exact q.elim
/-- sum of a list of ints -/
def asInts : List D → Option (List Int)
  | [] => some []
  | .int k :: r => (asInts r).map (k :: ·)
  | _ => none
theorem asInts_vals {r : Rt} {S : Hp} : ∀ {vs : List V} {ds : List D} {bs : List Int}, DAts G r S vs ds → asInts ds = some bs → vs = bs.map V.int
  | _, _, bs, .nil, e => by cases e; rfl
  | _, _, bs, .cons h t, e => by
    cases h <;> try (simp [asInts] at e)
    obtain ⟨b2, e2, rfl⟩ := e
    rw [asInts_vals t e2, List.map_cons]
def rSumT : RLd := fun ds Q => match ds with
  | [.lst xs] => (match asInts xs with | some bs => Q (.int bs.sum) | none => False)
  | _ => False
theorem cD_sum {K : PySem.W.Frag} (hK : K = G.K) : CallD G (rSum K) rSumT := by
  subst hK
  intro F r S H vs ds Qd Q g a q k
  cases a with
  | nil => exact q.elim
  | cons h t =>
    cases t with
    | cons _ _ => cases h <;> exact q.elim
    | nil =>
      cases h with
      | lst h1 z1 a1 =>
        rename_i vs ds
        have q' : match asInts ds with | some bs => Qd (.int bs.sum) | none => False := q
        cases e : asInts ds with
        | none => rw [e] at q'; exact q'.elim
        | some bs =>
          rw [e] at q'
          refine ⟨_, bs, rfl, ?_, k _ _ (.same g (.int _) q')⟩
          rw [← asInts_vals a1 e]
          exact SqL.of (g.sub _ _ h1)
      | _ => exact q.elim
end
end DL

set_option Elab.async false
set_option linter.all false
set_option maxRecDepth 100000
set_option maxHeartbeats 4000000
/-! DL4: statements, loops, comprehensions, calls of own defs. -/
namespace DL
open PySem PySem.Spec L2

structure Endd where
  nx : Sd → Prop
  rt : D → Prop
  bk : Sd → Prop
  ct : Sd → Prop
abbrev TSd := Endd → Sd → Prop
section
variable (G : Cw) (F : Frm)
def PoN (r : Rt) (S : Hp) (Nd : Sd → Prop) : L2.St → Hp → Prop := fun σ' H' => ∃ r' S' s', Ext r S r' S' ∧ Good G F r' S' H' ∧ Rep G F r' S' H' σ' s' ∧ Nd s'
def PoR (r : Rt) (S : Hp) (Rd : D → Prop) : VK := fun v H' => ∃ r' S' d, Ext r S r' S' ∧ Good G F r' S' H' ∧ DAt G r' S' v d ∧ Rd d
structure EndsOk (r : Rt) (S : Hp) (Ed : Endd) (E : Ends) : Prop where
  nx : ∀ σ' H', PoN G F r S Ed.nx σ' H' → E.nx σ' H'
  rt : ∀ v H', PoR G F r S Ed.rt v H' → E.rt v H'
  bk : ∀ σ' H', PoN G F r S Ed.bk σ' H' → E.bk σ' H'
  ct : ∀ σ' H', PoN G F r S Ed.ct σ' H' → E.ct σ' H'
def LS (t : TSd) : TS := fun E σ H => ∃ r S s Ed, Good G F r S H ∧ Rep G F r S H σ s ∧ t Ed s ∧ EndsOk G F r S Ed E
end
structure PDS (G : Cw) (F : Frm) (X : Cx) (st : Stmt) (t : TSd) : Prop where ps : PS X st (LS G F t)
structure PDSs (G : Cw) (F : Frm) (X : Cx) (st : List Stmt) (t : TSd) : Prop where ps : PSs X st (LS G F t)
theorem PS.imp {X : Cx} {e : Stmt} {t t' : TS} (h : PS X e t) (i : ∀ D σ H, t' D σ H → t D σ H) : PS X e t' := ⟨fun pins s σ H D I q => h.run pins s σ H D I (i _ _ _ q)⟩
theorem PSs.imp {X : Cx} {e : List Stmt} {t t' : TS} (h : PSs X e t) (i : ∀ D σ H, t' D σ H → t D σ H) : PSs X e t' := ⟨fun pins s σ H D I q => h.run pins s σ H D I (i _ _ _ q)⟩
section
variable {G : Cw} {F : Frm} {X : Cx} {e a b c : Expr} {t ta tb tc : TEd} {u : TTd} {w w1 w2 : TSd} {pos : Pos} {es : List Expr} {st : Stmt} {sts rest : List Stmt} {ws : List Nat}
theorem PoN.trans {r r1 : Rt} {S S1 : Hp} {Nd : Sd → Prop} {σ' : L2.St} {H' : Hp} (e : Ext r S r1 S1) (h : PoN G F r1 S1 Nd σ' H') : PoN G F r S Nd σ' H' := by
  obtain ⟨r', S', s', e', g, rp, q⟩ := h
  exact ⟨r', S', s', e.trans e', g, rp, q⟩
theorem PoR.trans {r r1 : Rt} {S S1 : Hp} {Nd : D → Prop} {v : V} {H' : Hp} (e : Ext r S r1 S1) (h : PoR G F r1 S1 Nd v H') : PoR G F r S Nd v H' := by
  obtain ⟨r', S', s', e', g, rp, q⟩ := h
  exact ⟨r', S', s', e.trans e', g, rp, q⟩
theorem EndsOk.ext {r r1 : Rt} {S S1 : Hp} {Ed : Endd} {E : Ends} (k : EndsOk G F r S Ed E) (e : Ext r S r1 S1) : EndsOk G F r1 S1 Ed E :=
  ⟨fun σ H h => k.nx σ H (h.trans e), fun σ H h => k.rt σ H (h.trans e), fun σ H h => k.bk σ H (h.trans e), fun σ H h => k.ct σ H (h.trans e)⟩
theorem PDS.ofQ {te : TS} (h : PS X st te) (i : ∀ E σ H r S s Ed, Good G F r S H → Rep G F r S H σ s → w Ed s → EndsOk G F r S Ed E → te E σ H) : PDS G F X st w :=
  ⟨PS.imp h fun E σ H ⟨r, S, s, Ed, g, rp, q, k⟩ => i E σ H r S s Ed g rp q k⟩
theorem PDSs.ofQ {te : TS} (h : PSs X sts te) (i : ∀ E σ H r S s Ed, Good G F r S H → Rep G F r S H σ s → w Ed s → EndsOk G F r S Ed E → te E σ H) : PDSs G F X sts w :=
  ⟨PSs.imp h fun E σ H ⟨r, S, s, Ed, g, rp, q, k⟩ => i E σ H r S s Ed g rp q k⟩
theorem LS.use {E : Ends} {σ : L2.St} {H : Hp} {r : Rt} {S : Hp} {s : Sd} {Ed : Endd} (g : Good G F r S H) (rp : Rep G F r S H σ s) (q : w Ed s) (k : EndsOk G F r S Ed E) : LS G F w E σ H := ⟨r, S, s, Ed, g, rp, q, k⟩
/-! ### blocks -/
def dNext : TSd := fun E s => E.nx s
def dSeq (w1 w2 : TSd) : TSd := fun E s => w1 { E with nx := w2 E } s
theorem pdss_nil : PDSs G F X [] dNext := PDSs.ofQ pss_nil fun E σ H r S s Ed g rp q k => k.nx _ _ ⟨r, S, s, .refl _ _, g, rp, q⟩
theorem pdss_cons (h1 : PDS G F X st w1) (h2 : PDSs G F X rest w2) : PDSs G F X (st :: rest) (dSeq w1 w2) :=
  PDSs.ofQ (pss_cons h1.ps h2.ps) fun E σ H r S s Ed g rp q k => LS.use g rp q ⟨fun σ' H' ⟨r', S', s', e', g', rp', q'⟩ => LS.use g' rp' q' (k.ext e'), k.rt, k.bk, k.ct⟩
theorem pdss_one (h1 : PDS G F X st w1) : PDSs G F X [st] w1 := ⟨pss_one h1.ps⟩
def dBreak : TSd := fun E s => E.bk s
def dCont : TSd := fun E s => E.ct s
theorem pds_pass : PDS G F X (.Pass pos) dNext := PDS.ofQ ps_pass fun E σ H r S s Ed g rp q k => k.nx _ _ ⟨r, S, s, .refl _ _, g, rp, q⟩
theorem pds_break : PDS G F X (.Break pos) dBreak := PDS.ofQ ps_break fun E σ H r S s Ed g rp q k => k.bk _ _ ⟨r, S, s, .refl _ _, g, rp, q⟩
theorem pds_continue : PDS G F X (.Continue pos) dCont := PDS.ofQ ps_continue fun E σ H r S s Ed g rp q k => k.ct _ _ ⟨r, S, s, .refl _ _, g, rp, q⟩
def dDrop (t : TEd) : TSd := fun E s => t s fun _ s1 => E.nx s1
theorem pds_expr (he : PD G F X e t) (hs : swapsWith e none pos.line X.env = pure false := by rfl) : PDS G F X (.Expr e pos) (dDrop t) :=
  PDS.ofQ (ps_expr he.pe hs) fun E σ H r S s Ed g rp q k => LE.use g rp q fun v H' r' S' s' d e' g' rp' a q' => k.nx _ _ ⟨r', S', s', e', g', rp', q'⟩
def dRet (t : TEd) : TSd := fun E s => t s fun d _ => E.rt d
theorem pds_ret (he : PD G F X e t) : PDS G F X (.Return (some e) pos) (dRet t) :=
  PDS.ofQ (ps_ret he.pe) fun E σ H r S s Ed g rp q k => LE.use g rp q fun v H' r' S' s' d e' g' rp' a q' => k.rt _ _ ⟨r', S', d, e', g', a, q'⟩
def dRetN : TSd := fun E _ => E.rt .non
theorem pds_retN : PDS G F X (.Return none pos) dRetN := PDS.ofQ ps_retN fun E σ H r S s Ed g rp q k => k.rt _ _ ⟨r, S, .non, .refl _ _, g, .non, q⟩
def dIfS (u : TTd) (w1 w2 : TSd) : TSd := fun E s => u s fun c s1 => if c = true then w1 E s1 else w2 E s1
theorem pds_if {p1 p2 : List Stmt} (hc : PDT G F X c u) (h1 : PDSs G F X p1 w1) (h2 : PDSs G F X p2 w2) : PDS G F X (.If c p1 p2 pos) (dIfS u w1 w2) :=
  PDS.ofQ (ps_if hc.pt h1.ps h2.ps) fun E σ H r S s Ed g rp q k => LT.use g rp q fun v H' r' S' s' e' g' rp' q' => by
    cases v with
    | true => exact LS.use g' rp' q' (k.ext e')
    | false => exact LS.use g' rp' q' (k.ext e')
/-! ### stores -/
def dSet (i : Nat) (t : TEd) : TSd := fun E s => t s fun d s1 => E.nx (sd s1 i (some d))
theorem pds_set {i : Nat} {x : Str} {pos' : Pos} (hN : X.N.Nodup) (hi : X.N[i]? = some x) (hx : Loc X.env.scope x) (he : PD G F X e t) (hs : swapsWith e (some (.Name x pos')) pos.line X.env = pure false := by rfl) (hf : X.fn x = true ∨ X.env.scope.names.lookup x = some .local := by first | exact .inl rfl | exact .inr rfl | assumption) :
    PDS G F X (.Assign [.Name x pos'] e pos) (dSet i t) :=
  PDS.ofQ (ps_set hN hi hx he.pe hs hf) fun E σ H r S s Ed g rp q k => LE.use g rp q fun v H' r' S' s' d e' g' rp' a q' => k.nx _ _ ⟨r', S', _, e', g', rp'.set a, q'⟩
/-- a fresh list kept as the slot's own -/
def dOwn (i : Nat) (t : TAd) : TSd := fun E s => t s fun ds s1 => E.nx (sd s1 i (some (.own ds)))
theorem own_set {σ : L2.St} {r : Rt} {S : Hp} {i : Nat} {Nd : List D → Sd → Prop} {v : V} {H' : Hp} (h : PoF G F σ r S Nd v H') : PoN G F r S (fun s1 => ∃ ds s2, Nd ds s2 ∧ s1 = sd s2 i (some (.own ds))) (σ.set i (some v)) H' := by
  obtain ⟨r', S', s', l, ds, e', g', rp', ev, o, no, q'⟩ := h
  subst ev
  exact ⟨r', S', _, e', g', rp'.setOwn o fun j es e1 _ => no j es e1, ds, s', q', rfl⟩
theorem pds_own {i : Nat} {x : Str} {pos' : Pos} {t : TAd} (hN : X.N.Nodup) (hi : X.N[i]? = some x) (hx : Loc X.env.scope x) (he : PDF G F X e t) (hs : swapsWith e (some (.Name x pos')) pos.line X.env = pure false := by rfl) (hf : X.fn x = true ∨ X.env.scope.names.lookup x = some .local := by first | exact .inl rfl | exact .inr rfl | assumption) :
    PDS G F X (.Assign [.Name x pos'] e pos) (dOwn i t) :=
  PDS.ofQ (ps_set hN hi hx he.pe hs hf) fun E σ H r S s Ed g rp q k => ⟨r, S, s, _, g, rp, q, fun v H' h => by
    obtain ⟨r', S', s1, e', g', rp', ds, s2, q', es⟩ := own_set (i := i) h
    subst es
    exact k.nx _ _ ⟨r', S', _, e', g', rp', q'⟩⟩
/-- a, b = x, y -/
def dPar (i j : Nat) (t : TAd) : TSd := fun E s => t s fun ds s1 => match ds with
  | [x, y] => E.nx (sd (sd s1 i (some x)) j (some y))
  | _ => False
theorem pds_par {i j : Nat} {x y : Str} {t : TAd} {px py pt : Pos} {kt k2 pt2} (hc : X.calm = true) (hN : X.N.Nodup) (hi : X.N[i]? = some x) (hj : X.N[j]? = some y) (hij : i ≠ j)
    (hx : X.env.scope.names.lookup x = some .local) (hy : X.env.scope.names.lookup y = some .local) (ha : PDA G F X [a, b] t)
    (hw : swappedStores [.Tuple [.Name x px, .Name y py] kt pt] (.Tuple [a, b] k2 pt2) X.env = pure (some [x, y]) := by rfl)
    (hs : swapsWithSole [.Tuple [.Name x px, .Name y py] kt pt] (.Tuple [a, b] k2 pt2) pos.line X.env = pure false := by rfl) :
    PDS G F X (.Assign [.Tuple [.Name x px, .Name y py] kt pt] (.Tuple [a, b] k2 pt2) pos) (dPar i j t) :=
  PDS.ofQ (ps_par hc hN hi hj hij hx hy ha.pa hw hs) fun E σ H r S s Ed g rp q k => LA.use g rp q fun vs H' r' S' s' ds e' g' rp' a q' => by
    cases a with
    | nil => exact q'.elim
    | cons h1 a =>
      cases a with
      | nil => exact q'.elim
      | cons h2 a =>
        cases a with
        | cons _ _ => exact q'.elim
        | nil => exact ⟨_, _, rfl, k.nx _ _ ⟨r', S', _, e', g', (rp'.set h1).set h2, q'⟩⟩
/-! ### targets -/
abbrev TGd := D → Sd → (Sd → Prop) → Prop
abbrev TGds := List D → Sd → (Sd → Prop) → Prop
def LG (G : Cw) (F : Frm) (ws : List Nat) (g : TGd) : TG := fun v σ H Q => ∃ r S s d Qd, Good G F r S H ∧ Rep G F r S H σ s ∧ DAt G r S v d ∧ g d s Qd ∧ ∀ σ' H', PoN G F r S Qd σ' H' → L2.wipe σ' ws = L2.wipe σ ws → Q σ' H'
def LGs (G : Cw) (F : Frm) (ws : List Nat) (g : TGds) : TGs := fun v σ H Q => ∃ r S s d Qd, Good G F r S H ∧ Rep G F r S H σ s ∧ DAts G r S v d ∧ g d s Qd ∧ ∀ σ' H', PoN G F r S Qd σ' H' → L2.wipe σ' ws = L2.wipe σ ws → Q σ' H'
/-- a target; ws: slots that it may change -/
structure PDG (G : Cw) (F : Frm) (X : Cx) (ws : List Nat) (tg : Expr) (g : TGd) : Prop where pg : PG X tg (LG G F ws g)
structure PDGs (G : Cw) (F : Frm) (X : Cx) (ws : List Nat) (tg : List Expr) (g : TGds) : Prop where pg : PGs X tg (LGs G F ws g)
theorem wipe_get (σ : L2.St) (i : Nat) : ∀ vs : List Nat, (L2.wipe σ vs)[i]? = if i ∈ vs ∧ i < σ.length then some none else σ[i]?
  | [] => by rw [if_neg (by simp)]; rfl
  | v :: vs => by
    show ((L2.wipe σ vs).set v none)[i]? = _
    by_cases h : v = i
    · subst h
      by_cases hl : v < σ.length
      · rw [List.getElem?_set_self (by rw [wipe_length]; exact hl), if_pos ⟨List.mem_cons_self, hl⟩]
      · rw [List.getElem?_eq_none (by simp [wipe_length]; omega), if_neg (fun z => hl z.2), List.getElem?_eq_none (by omega)]
    · rw [List.getElem?_set_ne h, wipe_get σ i vs]
      by_cases hm : i ∈ vs
      · by_cases hl : i < σ.length
        · rw [if_pos ⟨hm, hl⟩, if_pos ⟨List.mem_cons_of_mem _ hm, hl⟩]
        · rw [if_neg fun z => hl z.2, if_neg fun z => hl z.2]
      · rw [if_neg fun z => hm z.1, if_neg fun z => (List.mem_cons.mp z.1).elim (fun y => h y.symm) hm]
theorem wipe_set {σ : L2.St} {i : Nat} {y : Option V} {vs : List Nat} (h : i ∈ vs) : L2.wipe (σ.set i y) vs = L2.wipe σ vs := by
  refine List.ext_getElem? fun j => ?_
  rw [wipe_get, wipe_get, List.length_set]
  by_cases hj : j ∈ vs ∧ j < σ.length
  · rw [if_pos hj, if_pos hj]
  · rw [if_neg hj, if_neg hj]
    by_cases e : i = j
    · subst e
      have hl : ¬ i < σ.length := fun z => hj ⟨h, z⟩
      rw [List.getElem?_eq_none (by simp; omega), List.getElem?_eq_none (by omega)]
    · rw [List.getElem?_set_ne e]
theorem wipe_idem {σ : L2.St} {vs : List Nat} : L2.wipe (L2.wipe σ vs) vs = L2.wipe σ vs := by
  refine List.ext_getElem? fun j => ?_
  rw [wipe_get, wipe_length]
  by_cases hj : j ∈ vs ∧ j < σ.length
  · rw [if_pos hj, wipe_get, if_pos hj]
  · rw [if_neg hj]
theorem PG.imp {X : Cx} {e : Expr} {t t' : TG} (h : PG X e t) (i : ∀ v σ H Q, t' v σ H Q → t v σ H Q) : PG X e t' := ⟨fun pins s σ H v u Q I r q => h.run pins s σ H v u Q I r (i _ _ _ _ q)⟩
theorem PGs.imp {X : Cx} {e : List Expr} {t t' : TGs} (h : PGs X e t) (i : ∀ v σ H Q, t' v σ H Q → t v σ H Q) : PGs X e t' := ⟨fun pins s σ H v u Q I r q => h.run pins s σ H v u Q I r (i _ _ _ _ q)⟩
def kName (i : Nat) : TGd := fun d s Q => Q (sd s i (some d))
theorem pdg_name {i : Nat} {x : Str} (hN : X.N.Nodup) (hi : X.N[i]? = some x) (hx : Loc X.env.scope x) (hf : X.fn x = true ∨ X.env.scope.names.lookup x = some .local := by first | exact .inl rfl | exact .inr rfl | assumption) (hw : i ∈ ws := by decide) : PDG G F X ws (.Name x pos) (kName i) :=
  ⟨PG.imp (pg_name hN hi hx hf) fun v σ H Q ⟨r, S, s, d, Qd, g, rp, a, q, k⟩ => k _ _ ⟨r, S, _, .refl _ _, g, rp.set a, q⟩ (wipe_set hw)⟩
def kNil : TGds := fun ds s Q => match ds with | [] => Q s | _ => False
def kCons (g : TGd) (h : TGds) : TGds := fun ds s Q => match ds with | d :: r => g d s fun s1 => h r s1 Q | [] => False
theorem pdgs_nil : PDGs G F X ws [] kNil := ⟨PGs.imp pgs_nil fun v σ H Q ⟨r, S, s, d, Qd, g, rp, a, q, k⟩ => by
  cases a with
  | nil => exact ⟨rfl, k _ _ ⟨r, S, s, .refl _ _, g, rp, q⟩ rfl⟩
  | cons _ _ => exact q.elim⟩
theorem pdgs_cons {g1 : TGd} {g2 : TGds} (h1 : PDG G F X ws e g1) (h2 : PDGs G F X ws es g2) (hs : (assignEach (e :: es) X.env).map (·.2) = assign e X.env :: (assignEach es X.env).map (·.2) := by rfl) : PDGs G F X ws (e :: es) (kCons g1 g2) :=
  ⟨PGs.imp (pgs_cons h1.pg h2.pg hs) fun v σ H Q ⟨r, S, s, d, Qd, g, rp, a, q, k⟩ => by
    cases a with
    | nil => exact q.elim
    | cons h1 a =>
      exact ⟨_, _, rfl, r, S, s, _, _, g, rp, h1, q, fun σ' H' ⟨r', S', s', e', g', rp', q'⟩ hw => ⟨r', S', s', _, Qd, g', rp', a.ext e', q', fun σ2 H2 h hw2 => k _ _ (h.trans e') (hw2.trans hw)⟩⟩⟩
def kTup (n : Nat) (g : TGds) : TGd := fun d s Q => match d with
  | .tup xs => xs.length = n ∧ g xs s Q
  | _ => False
theorem pdg_tup {g : TGds} {kk n : Nat} (hc : X.calm = true) (h : PDGs G F X ws es g) (hn : (assignEach es X.env).length = n := by rfl) (hst : (assignEach es X.env).findIdx? (·.1) = none := by rfl) (hK : X.K = G.K := by rfl) : PDG G F X ws (.Tuple es kk pos) (kTup n g) :=
  ⟨PG.imp (pg_tup hc h.pg hn hst) fun v σ H Q ⟨r, S, s, d, Qd, g, rp, a, q, k⟩ => by
    cases a with
    | tup h1 z1 a1 => exact ⟨_, _, rfl, by rw [hK]; exact sqT_sub g.sub h1, by rw [a1.length]; exact q.1, r, S, s, _, Qd, g, rp, a1, q.2, k⟩
    | _ => exact q.elim⟩
/-- target = value -/
def dAsg (t : TEd) (g : TGd) : TSd := fun E s => t s fun d s1 => g d s1 E.nx
theorem pds_asg {tg : Expr} {g : TGd} (he : PD G F X e t) (hg : PDG G F X ws tg g) (hs : swapsWithSole [tg] e pos.line X.env = pure false := by rfl) (hw : swappedStores [tg] e X.env = pure none := by rfl)
    (h1 : (assignEach [tg] X.env).map (·.2) = [assign tg X.env] := by rfl) : PDS G F X (.Assign [tg] e pos) (dAsg t g) :=
  PDS.ofQ (ps_asg he.pe hg.pg hs hw h1) fun E σ H r S s Ed g rp q k => LE.use g rp q fun v H' r' S' s' d e' g' rp' a q' => ⟨r', S', s', d, _, g', rp', a, q', fun σ2 H2 h _ => k.nx _ _ (h.trans e')⟩
/-! ### while -/
def dWhile (u : TTd) (w : TSd) : TSd := fun E s => ∃ W : Nat → Sd → Prop, (∃ m, W m s) ∧ ∀ m s, W m s → u s fun c s1 => if c = true then w { nx := fun s2 => ∃ m', m' < m ∧ W m' s2, ct := fun s2 => ∃ m', m' < m ∧ W m' s2, bk := E.nx, rt := E.rt } s1 else E.nx s1
theorem pds_while {body : List Stmt} (hp : PassesOwn (model X.prog X.w) X.A X.env X.xe) (hc : PDT G F X c u) (hb : PDSs G F X body w) : PDS G F X (.While c body [] pos) (dWhile u w) :=
  PDS.ofQ (ps_while hp hc.pt hb.ps) fun E σ H r S s Ed g rp q k => by
    obtain ⟨W, ⟨m0, w0⟩, turn⟩ := q
    refine ⟨fun m σ H => PoN G F r S (W m) σ H, ⟨m0, r, S, s, .refl _ _, g, rp, w0⟩, ?_⟩
    rintro m σ1 H1 ⟨r1, S1, s1, e1, g1, rp1, w1⟩
    refine LT.use g1 rp1 (turn m s1 w1) fun v H2 r2 S2 s2 e2 g2 rp2 q2 => ?_
    cases v with
    | false => exact k.nx _ _ ⟨r2, S2, s2, e1.trans e2, g2, rp2, q2⟩
    | true =>
      refine ⟨fun σ H => ∃ m', m' < m ∧ PoN G F r S (W m') σ H, fun _ _ h => h, ?_⟩
      have kk : ∀ σ' H', PoN G F r2 S2 (fun s2 => ∃ m', m' < m ∧ W m' s2) σ' H' → ∃ m', m' < m ∧ PoN G F r S (W m') σ' H' := fun σ' H' ⟨r', S', s', e', g', rp', m', hm, w'⟩ => ⟨m', hm, r', S', s', (e1.trans e2).trans e', g', rp', w'⟩
      exact LS.use g2 rp2 q2 ⟨kk, fun v H' h => k.rt _ _ ((h.trans e2).trans e1), fun σ' H' h => k.nx _ _ ((h.trans e2).trans e1), kk⟩
/-- the usual way: an invariant and a measure -/
theorem dWhile_by {E : Endd} {s : Sd} (P : Sd → Prop) (μ : Sd → Nat) (h0 : P s) (h : ∀ s, P s → u s fun c s1 => if c = true then w { nx := fun s2 => P s2 ∧ μ s2 < μ s, ct := fun s2 => P s2 ∧ μ s2 < μ s, bk := E.nx, rt := E.rt } s1 else E.nx s1)
    (mono : ∀ (E E' : Endd) s, (∀ s, E.nx s → E'.nx s) → (∀ s, E.ct s → E'.ct s) → E.bk = E'.bk → E.rt = E'.rt → w E s → w E' s) (monoT : ∀ s (Q Q' : Bool → Sd → Prop), (∀ b s, Q b s → Q' b s) → u s Q → u s Q') : dWhile u w E s := by
  refine ⟨fun m s => P s ∧ μ s = m, ⟨_, h0, rfl⟩, ?_⟩
  rintro m s ⟨hp, rfl⟩
  refine monoT s _ _ (fun b s1 => ?_) (h s hp)
  cases b with
  | false => exact fun q => q
  | true =>
    intro q
    refine mono { nx := fun s2 => P s2 ∧ μ s2 < μ s, ct := fun s2 => P s2 ∧ μ s2 < μ s, bk := E.nx, rt := E.rt } _ s1 (fun s2 h => ?_) (fun s2 h => ?_) rfl rfl q
    · exact ⟨_, h.2, h.1, rfl⟩
    · exact ⟨_, h.2, h.1, rfl⟩
/-! ### for -/
structure WalkD (G : Cw) (F : Frm) (J : It) (r : Rt) (S : Hp) (xs : List D) : Prop where
  go : ∀ i r' S' H, Ext r S r' S' → Good G F r' S' H → i < xs.length → J.go i H
  yld : ∀ i x H H' r' S', Ext r S r' S' → Good G F r' S' H → i < xs.length → J.yld i H x H' → ∃ S'' d, Gro S' H S'' H' ∧ xs[i]? = some d ∧ DAt G r' S'' x d
  stop : ∀ r' S' H, Ext r S r' S' → Good G F r' S' H → J.stop xs.length H
theorem WalkD.ext {J : It} {r r' : Rt} {S S' : Hp} {xs : List D} (h : WalkD G F J r S xs) (e : Ext r S r' S') : WalkD G F J r' S' xs :=
  ⟨fun i r2 S2 H e2 => h.go i r2 S2 H (e.trans e2), fun i x H H' r2 S2 e2 => h.yld i x H H' r2 S2 (e.trans e2), fun r2 S2 H e2 => h.stop r2 S2 H (e.trans e2)⟩
def LI (G : Cw) (F : Frm) (t : TAd) : TI := fun σ H R => ∃ r S s Qd, Good G F r S H ∧ Rep G F r S H σ s ∧ t s Qd ∧ ∀ J H' r' S' s' xs, Ext r S r' S' → Good G F r' S' H' → Rep G F r' S' H' σ s' → WalkD G F J r' S' xs → Qd xs s' → R J H'
structure PDI (G : Cw) (F : Frm) (X : Cx) (tg iter : Expr) (t : TAd) : Prop where pi : PI X tg iter (LI G F t)
theorem PI.imp {X : Cx} {tg e : Expr} {t t' : TI} (h : PI X tg e t) (i : ∀ σ H R, t' σ H R → t σ H R) : PI X tg e t' := ⟨fun pins s σ H R I q => h.run pins s σ H R I (i _ _ _ q)⟩
theorem walk_list {a : Addr} {r : Rt} {S : Hp} {vs : List V} {ds : List D} (h : S a = some (.lst vs)) (d : DAts G r S vs ds) : WalkD G F (Itl G.K a) r S ds where
  go := fun i r' S' H e g hi => by
    rw [← d.length] at hi
    exact ⟨vs, vs[i], SqL.of (g.sub _ _ (e.s _ _ h)), by simp [hi]⟩
  yld := fun i x H H' r' S' e g hi y => by
    obtain ⟨rfl, y⟩ := y
    have q := y vs (SqL.of (g.sub _ _ (e.s _ _ h)))
    obtain ⟨dd, e1, a1⟩ := d.getV q
    exact ⟨S', dd, .refl g.sub, e1, a1.ext e⟩
  stop := fun r' S' H e g => ⟨vs, SqL.of (g.sub _ _ (e.s _ _ h)), by rw [d.length]; exact Nat.le_refl _⟩
theorem walk_tup {a : Addr} {r : Rt} {S : Hp} {vs : List V} {ds : List D} (h : SqT G.K S a vs) (d : DAts G r S vs ds) : WalkD G F (Itt G.K a) r S ds where
  go := fun i r' S' H e g hi => by
    rw [← d.length] at hi
    exact ⟨vs, vs[i], sqT_sub g.sub (sqT_same e.s h), by simp [hi]⟩
  yld := fun i x H H' r' S' e g hi y => by
    obtain ⟨rfl, y⟩ := y
    have q := y vs (sqT_sub g.sub (sqT_same e.s h))
    obtain ⟨dd, e1, a1⟩ := d.getV q
    exact ⟨S', dd, .refl g.sub, e1, a1.ext e⟩
  stop := fun r' S' H e g => ⟨vs, sqT_sub g.sub (sqT_same e.s h), by rw [d.length]; exact Nat.le_refl _⟩
theorem walk_scr {a : Addr} {r : Rt} {S : Hp} {ns : List Int} (h : SqL G.K S a (ns.map V.int)) : WalkD G F (Itl G.K a) r S (ns.map D.int) where
  go := fun i r' S' H e g hi => by
    rw [List.length_map] at hi
    exact ⟨_, .int ns[i], g.sub.seq (e.s.seq h), by simp [hi]⟩
  yld := fun i x H H' r' S' e g hi y => by
    obtain ⟨rfl, y⟩ := y
    have q := y _ (g.sub.seq (e.s.seq h))
    rw [List.getElem?_map] at q
    cases en : ns[i]? with
    | none => rw [en] at q; cases q
    | some n =>
      rw [en] at q
      cases q
      exact ⟨S', .int n, .refl g.sub, by rw [List.getElem?_map, en]; rfl, .int n⟩
  stop := fun r' S' H e g => ⟨_, g.sub.seq (e.s.seq h), by rw [List.length_map, List.length_map]; exact Nat.le_refl _⟩
def signs (z : Str) : List D := z.cps.toList.map fun c => .str ⟨#[c]⟩
theorem walk_str {z : Str} {r : Rt} {S : Hp} : WalkD G F (Its z) r S (signs z) where
  go := fun i r' S' H e g hi => by
    unfold signs at hi
    show i < z.cps.size
    simpa using hi
  yld := fun i x H H' r' S' e g hi y => by
    obtain ⟨rfl, c, hc, rfl⟩ := y
    refine ⟨S', .str ⟨#[c]⟩, .refl g.sub, ?_, .str _⟩
    unfold signs
    rw [List.getElem?_map, Array.getElem?_toList, hc]
    rfl
  stop := fun r' S' H e g => by
    show z.cps.size ≤ (signs z).length
    unfold signs
    simp
def intsD (lo : Int) (n : Nat) : List D := (List.range n).map fun (i : Nat) => .int (lo + i)
theorem walk_range {lo : Int} {n : Nat} {r : Rt} {S : Hp} : WalkD G F (Itr lo n) r S (intsD lo n) where
  go := fun i r' S' H e g hi => by
    unfold intsD at hi
    show i < n
    simpa using hi
  yld := fun i x H H' r' S' e g hi y => by
    obtain ⟨rfl, rfl⟩ := y
    refine ⟨S', .int (lo + i), .refl g.sub, ?_, .int _⟩
    unfold intsD at hi ⊢
    rw [List.length_map, List.length_range] at hi
    rw [List.getElem?_map, List.getElem?_range hi]
    rfl
  stop := fun r' S' H e g => by
    show n ≤ (intsD lo n).length
    unfold intsD
    simp
def dSeqIt (t : TEd) : TAd := fun s Q => t s fun d s1 => match d with | .lst xs => Q xs s1 | .tup xs => Q xs s1 | .str z => Q (signs z) s1 | .scr ns => Q (ns.map .int) s1 | _ => False
theorem pdi_seq {tg : Expr} (h : PD G F X e t) (hK : X.K = G.K := by rfl) : PDI G F X tg e (dSeqIt t) :=
  ⟨⟨fun pins sh σ H R I ⟨r, S, s, Qd, g, rp, q, k⟩ => by
    refine thn (h.pe.run pins sh σ H _ I (LE.use (Q := Po G F σ r S _) g rp q fun v H' r' S' s' d e' g' rp' a q' => ⟨r', S', s', d, e', g', rp', a, q'⟩)) fun v s1 ⟨x, H1, I1, r1, ⟨r', S', s', d, e', g', rp', a, q'⟩⟩ => ?_
    cases a with
    | lst h1 z1 a1 =>
      cases r1
      have hq : SqL X.K H1 _ _ := SqL.of (g'.sub _ _ h1)
      obtain ⟨its, rv, p, hz⟩ := I1.list hq
      refine wpAny_pyIter_list p.isList ?_
      refine ⟨s1.heap.objs.size, [s1.heap.objs.size], _, _, H1, rfl, I1.kept (t' := s1.toks) fun b o e => Heap.get?_push_of_some _ e, turn_list _ _, ⟨_, Heap.get?_push_size _ rfl, rfl, rfl⟩, fun b hb => ?_, k _ _ r' S' s' _ e' g' rp' (by rw [hK]; exact walk_list h1 a1) q'⟩
      have e : b = s1.heap.objs.size := by simpa using hb
      subst e
      exact I1.fpOk (Nat.le_refl _) (I1.hok.fresh (Nat.le_refl _))
    | @scr aa ns h1 =>
      cases r1

      have hq : SqL X.K H1 aa (ns.map V.int) := by rw [hK]; exact g'.sub.seq h1
      obtain ⟨its, rv, p, hz⟩ := I1.list hq
      refine wpAny_pyIter_list p.isList ?_
      refine ⟨s1.heap.objs.size, [s1.heap.objs.size], _, _, H1, rfl, I1.kept (t' := s1.toks) fun b o e => Heap.get?_push_of_some _ e, turn_list _ _, ⟨_, Heap.get?_push_size _ rfl, rfl, rfl⟩, fun b hb => ?_, k _ _ r' S' s' _ e' g' rp' (by rw [hK]; exact walk_scr h1) q'⟩
      have e : b = s1.heap.objs.size := by simpa using hb
      subst e
      exact I1.fpOk (Nat.le_refl _) (I1.hok.fresh (Nat.le_refl _))
    | tup h1 z1 a1 =>
      cases r1
      rename_i aa vs ds us
      have hq : SqT X.K H1 aa vs := by rw [hK]; exact sqT_sub g'.sub h1
      obtain ⟨its, rv, p, hz⟩ := I1.tuple hq
      refine wpAny_pyIter_tuple (show s1.heap.IsTuple _ its.toArray from p) ?_
      refine ⟨s1.heap.objs.size, [s1.heap.objs.size], _, _, H1, rfl, I1.kept (t' := s1.toks) fun b o e => Heap.get?_push_of_some _ e, turn_tuple _ _, ⟨_, Heap.get?_push_size _ rfl, rfl, rfl⟩, fun b hb => ?_, k _ _ r' S' s' _ e' g' rp' (by rw [hK]; exact walk_tup h1 a1) q'⟩
      have e : b = s1.heap.objs.size := by simpa using hb
      subst e
      exact I1.fpOk (Nat.le_refl _) (I1.hok.fresh (Nat.le_refl _))
    | str x =>
      obtain ⟨t, rfl⟩ := r1
      cases ha : x.cps.all (· < 128)
      · exact wpAny_pyIter_wide ha (pi_one (tk := s1.toks) I1 _ (turn_str _ x t "str_iterator" (.inr rfl)) ⟨_, Heap.get?_push_size _ rfl, rfl, rfl⟩ (k _ _ r' S' s' _ e' g' rp' walk_str q'))
      · exact wpAny_pyIter_ascii ha (pi_one (tk := s1.toks) I1 _ (turn_str _ x t "str_ascii_iterator" (.inl rfl)) ⟨_, Heap.get?_push_size _ rfl, rfl, rfl⟩ (k _ _ r' S' s' _ e' g' rp' walk_str q'))
    | _ => exact q'.elim⟩⟩
def dRange1 (t : TAd) : TAd := fun s Q => t s fun ds s1 => match ds with
  | [.int j] => (-(2 ^ 62) ≤ j ∧ j < 2 ^ 62) ∧ Q (intsD 0 j.toNat) s1
  | _ => False
theorem pdi_range1 {tg : Expr} {p : Pos} {ta : TAd} (hg : Gl X "range") (hm : X.mg "range" = none) (ha : PDA G F X [a] ta) (hs : starEach [a] X.env = [(false, eval a X.env)] := by rfl) : PDI G F X tg (.Call (.Name "range" p) [a] [] pos) (dRange1 ta) :=
  ⟨PI.imp (pi_range1 hg hm ha.pa hs) fun σ H R ⟨r, S, s, Qd, g, rp, q, k⟩ => LA.use g rp q fun vs H' r' S' s' ds e' g' rp' a q' => by
    cases a with
    | nil => exact q'.elim
    | cons h1 a =>
      cases a with
      | cons _ _ => cases h1 <;> exact q'.elim
      | nil =>
        cases h1 <;> first | exact q'.elim | skip
        exact ⟨_, rfl, q'.1.1, q'.1.2, k _ _ r' S' s' _ e' g' rp' walk_range q'.2⟩⟩
def dRange2 (t : TAd) : TAd := fun s Q => t s fun ds s1 => match ds with
  | [.int i, .int j] => (-(2 ^ 62) ≤ i ∧ i < 2 ^ 62 ∧ -(2 ^ 62) ≤ j ∧ j < 2 ^ 62) ∧ Q (intsD i (j - i).toNat) s1
  | _ => False
theorem pdi_range2 {tg : Expr} {p : Pos} {ta : TAd} (hg : Gl X "range") (hm : X.mg "range" = none) (ha : PDA G F X [a, b] ta) (hs : starEach [a, b] X.env = [(false, eval a X.env), (false, eval b X.env)] := by rfl) (hs2 : starEach [b] X.env = [(false, eval b X.env)] := by rfl) : PDI G F X tg (.Call (.Name "range" p) [a, b] [] pos) (dRange2 ta) :=
  ⟨PI.imp (pi_range2 hg hm ha.pa hs hs2) fun σ H R ⟨r, S, s, Qd, g, rp, q, k⟩ => LA.use g rp q fun vs H' r' S' s' ds e' g' rp' a q' => by
    cases a with
    | nil => exact q'.elim
    | cons h1 a =>
      cases a with
      | nil => cases h1 <;> exact q'.elim
      | cons h2 a =>
        cases a with
        | cons _ _ => cases h1 <;> cases h2 <;> exact q'.elim
        | nil =>
          cases h1 <;> cases h2 <;> try exact q'.elim
          exact ⟨_, _, rfl, q'.1, k _ _ r' S' s' _ e' g' rp' walk_range q'.2⟩⟩
def loopD (g : TGd) (w : TSd) (E : Endd) : List D → Sd → Prop
  | [], s => E.nx s
  | x :: xs, s => g x s fun s1 => w { nx := loopD g w E xs, ct := loopD g w E xs, bk := E.nx, rt := E.rt } s1
def dFor (it : TAd) (g : TGd) (w : TSd) : TSd := fun E s => it s fun xs s1 => loopD g w E xs s1
theorem pds_for {tg iter : Expr} {body : List Stmt} {it : TAd} {g : TGd} (hp : PassesOwn (model X.prog X.w) X.A X.env X.xe) (hc : X.calm = true) (hi : PDI G F X tg iter it) (hg : PDG G F X ws tg g) (hb : PDSs G F X body w) (hs : ∀ x, foldedSetIterable iter X.env x = pure x := by intro _; rfl) :
    PDS G F X (.For tg iter body [] pos) (dFor it g w) :=
  PDS.ofQ (ps_for hp hc hi.pi hg.pg hb.ps hs) fun E σ H r S s Ed gd rp q k => ⟨r, S, s, _, gd, rp, q, fun J H1 r1 S1 s1 xs e1 g1 rp1 wk q1 => by
    refine ⟨fun i m σ H => m = xs.length - i ∧ i ≤ xs.length ∧ PoN G F r1 S1 (loopD g w Ed (xs.drop i)) σ H, ⟨xs.length, by simp, Nat.zero_le _, r1, S1, s1, .refl _ _, g1, rp1, q1⟩, ?_⟩
    rintro i m σ2 H2 ⟨rfl, hi, r2, S2, s2, e2, g2, rp2, q2⟩
    by_cases hlt : i < xs.length
    · refine .inr ⟨wk.go i r2 S2 H2 e2 g2 hlt, fun σ H => PoN G F r1 S1 (loopD g w Ed (xs.drop (i + 1))) σ H, fun σ' H' p => ⟨xs.length - (i + 1), by omega, rfl, hlt, p⟩, fun x H3 y => ?_⟩
      obtain ⟨S3, d, gr, ed, ad⟩ := wk.yld i x H2 H3 r2 S2 e2 g2 hlt y
      have e3 : xs.drop i = d :: xs.drop (i + 1) := by
        obtain ⟨_, e4⟩ := List.getElem?_eq_some_iff.mp ed
        rw [← e4]
        exact List.drop_eq_getElem_cons hlt
      rw [e3] at q2
      refine ⟨r2, S3, s2, d, _, g2.gro gr, rp2.gro gr, ad, q2, fun σ4 H4 ⟨r4, S4, s4, e4, g4, rp4, q4⟩ _ => LS.use g4 rp4 q4 ?_⟩
      have ee : Ext r1 S1 r4 S4 := e2.trans ((gr.ext r2).trans e4)
      exact ⟨fun _ _ h => h.trans ee, fun _ _ h => k.rt _ _ ((h.trans ee).trans e1), fun _ _ h => k.nx _ _ ((h.trans ee).trans e1), fun _ _ h => h.trans ee⟩
    · have e : i = xs.length := by omega
      subst e
      rw [List.drop_length] at q2
      exact .inl ⟨wk.stop r2 S2 H2 e2 g2, k.nx _ _ ⟨r2, S2, s2, e1.trans e2, g2, rp2, q2⟩⟩⟩
end
end DL

set_option Elab.async false
set_option linter.all false
set_option maxRecDepth 100000
set_option maxHeartbeats 4000000
/-! DL5: defs and their calls, comprehensions, lists of one's own. -/
namespace DL
open PySem PySem.Spec L2

abbrev SpD := List D → (D → Prop) → (Str → List D → Prop) → Prop
abbrev XcD := Str → List D → Sd → Prop
section
variable (G : Cw) (F : Frm)
def PoX (r : Rt) (S : Hp) (Xd : Str → List D → Prop) : XK := fun cls d H' => ∃ r' S' c C dx vs ds, cls = .ref C ∧ d = some dx ∧ G.cls c = some C ∧ Ext r S r' S' ∧ Good G F r' S' H' ∧ S' dx = some (.xd ((G.flds c).zip vs)) ∧ (G.flds c).length = vs.length ∧ DAts G r' S' vs ds ∧ Xd c ds
/-- a promise over data as a promise of the hand layer -/
def liftSp (sp : SpD) : Sp := fun vs H Q E => ∃ r S ds Qd Xd, Good G ⟨H, S, r⟩ r S H ∧ DAts G r S vs ds ∧ sp ds Qd Xd ∧ (∀ v H', PoR G ⟨H, S, r⟩ r S Qd v H' → Q v H') ∧ ∀ cls d H', PoX G ⟨H, S, r⟩ r S Xd cls d H' → E cls d H'
/-- what a body wishes of exceptions -/
def LW (Xc : XcD) : WX := fun cls d σ H => ∃ r S s c C dx vs ds, cls = .ref C ∧ d = some dx ∧ G.cls c = some C ∧ Good G F r S H ∧ Rep G F r S H σ s ∧ S dx = some (.xd ((G.flds c).zip vs)) ∧ (G.flds c).length = vs.length ∧ DAts G r S vs ds ∧ Xc c ds s
end
def noX : XcD := fun _ _ _ => False
theorem takesNo {G : Cw} {F : Frm} {X : Cx} : Takes X (LW G F noX) := takes0.imp fun _ _ _ _ h => by
  obtain ⟨_, _, _, _, _, _, _, _, _, _, _, _, _, _, _, _, z⟩ := h
  exact z.elim

section
variable {G : Cw} {F : Frm} {r r' : Rt} {S S' H H' : Hp} {σ : L2.St} {s : Sd}
theorem Good.dom' (g : Good G F r S H) {a : Addr} {o : HO} (e : F.H a = some o) : H a ≠ none := by
  by_cases hb : F.r.bag = some a
  · obtain ⟨_, _, _, _, _, _, _, q, _⟩ := g.bag a (g.rF a hb)
    rw [q]; simp
  · rw [g.keep a o e hb]; simp
theorem Good.start (g : Good G F r S H) : Good G ⟨H, S, r⟩ r S H :=
  ⟨g.sub, fun _ _ e _ => e, fun _ _ _ => rfl, .refl _, g.bag, fun _ e => .inl e, fun _ e => e⟩
/-- behind a call: the callee's frame was (H, S, r) -/
theorem Good.after (g : Good G F r S H) (g' : Good G ⟨H, S, r⟩ r' S' H') : Good G F r' S' H' where
  sub := g'.sub
  keep := fun a o e n => g'.keep a o (g.keep a o e n) fun z => by
    rcases g.rb a z with h | h
    · exact n h
    · rw [h] at e; cases e
  frz := fun a o e => by
    have h1 := g.dom' e
    cases q : H a with
    | none => exact (h1 q).elim
    | some u => exact (g'.frz a u q).trans (g.frz a o e)
  ext := g.ext.trans g'.ext
  bag := g'.bag
  rb := fun a e => by
    rcases g'.rb a e with h | h
    · exact g.rb a h
    · refine .inr ?_
      cases q : F.H a with
      | none => rfl
      | some o => exact (g.dom' q h).elim
  rF := fun a e => g'.rF a (g.rF a e)
theorem Ext.after (g' : Good G ⟨H, S, r⟩ r' S' H') : Ext r S r' S' := ⟨g'.ext, ⟨fun a e => g'.rF a e⟩⟩
theorem Rep.after (g' : Good G ⟨H, S, r⟩ r' S' H') (rp : Rep G F r S H σ s) : Rep G F r' S' H' σ s := rp.mono (Ext.after g') fun i l ds _ _ o => by
  obtain ⟨vs, e, _, _⟩ := o.ex
  refine ⟨by rw [g'.keep l _ e o.b, e], by rw [g'.frz l _ e]; exact o.s, fun z => ?_⟩
  rcases g'.rb l z with h | h
  · exact o.b h
  · have h' : H l = none := h
    rw [e] at h'; cases h'
end

/-! ### calls of own defs -/
def dCall (sp : SpD) (Xc : XcD) (ta : TAd) : TEd := fun s Q => ta s fun ds s1 => sp ds (fun d => Q d s1) fun c es => Xc c es s1
/-- a def that is called by its name x: it keeps sp -/
structure Cal (P : Program) (w : World) (K : PySem.W.Frag) (mg : Str → Option Value) (base : Heap) (cls : Str → Option Addr) (flds : Str → List Str) (k : Nat) (x : Str) (sp : SpD) : Prop where
  ex : ∃ f, mg x = some (.ref f) ∧ PySem.W.keepIn K (.ref f) = true ∧ FnR P w K mg base (L2.CX P w) k f (liftSp ⟨K, cls, flds⟩ sp)
theorem Cal.mono {P : Program} {w : World} {K : PySem.W.Frag} {mg : Str → Option Value} {base : Heap} {cls : Str → Option Addr} {flds : Str → List Str} {j k : Nat} {x : Str} {sp : SpD} (C : Cal P w K mg base cls flds j x sp) (h : j ≤ k) : Cal P w K mg base cls flds k x sp := by
  obtain ⟨f, h1, h2, h3⟩ := C.ex
  exact ⟨f, h1, h2, h3.mono h⟩
theorem Cal.imp {P : Program} {w : World} {K : PySem.W.Frag} {mg : Str → Option Value} {base : Heap} {cls : Str → Option Addr} {flds : Str → List Str} {k : Nat} {x : Str} {sp sp' : SpD} (C : Cal P w K mg base cls flds k x sp) (h : ∀ ds Q E, sp' ds Q E → sp ds Q E) : Cal P w K mg base cls flds k x sp' := by
  obtain ⟨f, h1, h2, h3⟩ := C.ex
  exact ⟨f, h1, h2, h3.imp fun vs H Q E ⟨r, S, ds, Qd, Xd, g, a, q, z⟩ => ⟨r, S, ds, Qd, Xd, g, a, h _ _ _ q, z⟩⟩
section
variable {cls : Str → Option Addr} {flds : Str → List Str} {F : Frm} {X : Cx} {e : Expr} {es : List Expr} {pos p : Pos} {x : Str} {k : Nat} {sp : SpD} {Xc : XcD} {ta : TAd}
theorem run_cal {G : Cw} {f : Addr} {pins : List (Addr × Obj)} {σ : L2.St} {H : Hp} {sh : Shared} {r : Rt} {S : Hp} {s : Sd} {us : List Value} {vs : List V} {ds : List D} {Qd : D → Sd → Prop} {Q : VK} (Fk : FnR X.prog X.w X.K X.mg X.base (L2.CX X.prog X.w) k f (liftSp G sp)) (hr : Room k X.A) (tk : Takes X (LW G F Xc))
    (I : Inv X pins σ H sh) (rv : Vals vs us) (g : Good G F r S H) (rp : Rep G F r S H σ s) (a : DAts G r S vs ds) (q : sp ds (fun d => Qd d s) fun c es => Xc c es s)
    (kq : ∀ v H' r' S' d, Ext r S r' S' → Good G F r' S' H' → Rep G F r' S' H' σ s → DAt G r' S' v d → Qd d s → Q v H') : wpAny (model X.prog X.w) X.A (call (.ref f) us) (EP X pins σ Q) X.xe sh := by
  have h : liftSp G sp vs H Q (WE (LW G F Xc) σ) := by
    refine ⟨r, S, ds, _, _, g.start, a, q, fun v H' ⟨r', S', d, e', g', a', q'⟩ => kq v H' r' S' d e' (g.after g') (rp.after g') a' q', ?_⟩
    rintro cls d H' ⟨r', S', c, C, dx, ws, es, h1, h2, h3, e', g', h4, h5, h6, h7⟩
    exact ⟨r', S', s, c, C, dx, ws, es, h1, h2, h3, g.after g', rp.after g', h4, h5, h6, h7⟩
  refine wpAny_call (codeAny_mono (Fk X.A X.stack sh H us vs Q (WE (LW G F Xc) σ) hr I.env0 rv h) fun r s' hq => ?_)
  cases r with
  | error e => exact passAt tk σ pins H sh e s' I hq
  | ok fl =>
    cases fl with
    | ret u => exact I.after hq
    | next => exact False.elim hq
    | brk => exact False.elim hq
    | cont => exact False.elim hq
theorem pd_cal {G : Cw} (C : Cal X.prog X.w X.K X.mg X.base cls flds k x sp) (hr : Room k X.A) (hg : Gl X x) (tk : Takes X (LW G F Xc)) (ha : PDA G F X (e :: es) ta) (hG : G = ⟨X.K, cls, flds⟩ := by rfl) (hdb : (x == ("__debug__" : Str)) = false := by decide)
    (he : starEach (e :: es) X.env = (false, eval e X.env) :: starEach es X.env := by rfl) (hpl : (backTo pos (starEach es X.env)).any (·.1) = false := by rfl) : PD G F X (.Call (.Name x p) (e :: es) [] pos) (dCall sp Xc ta) := by
  subst hG
  exact ⟨⟨fun pins sh σ H Q I ⟨r, S, s, Qd, g, rp, q, kq⟩ => by
    obtain ⟨f, hm, hk, Fk⟩ := C.ex
    refine wpAny_Call_Name_kw (ld_glob I hg hm ?_ hdb)
    refine PySem.W.callWith_K (h₀ := X.base) I.ok.mod.kin hk (thn (ha.pa.run pos pins sh σ H _ I (LA.use (Q := PoA ⟨X.K, cls, flds⟩ F σ r S _) g rp q fun vs H1 r1 S1 s1 ds e1 g1 rp1 a1 q1 => ⟨r1, S1, s1, ds, e1, g1, rp1, a1, q1⟩)) fun us s1 ⟨vs, H1, I1, rv, r1, S1, s1', ds, e1, g1, rp1, a1, q1⟩ => ⟨I1.kIn, ?_⟩) he hpl
    exact run_cal Fk hr tk I1 rv g1 rp1 a1 q1 fun v H' r' S' d e' g' rp' a' q' => kq _ _ ⟨r', S', s1', d, e1.trans e', g', rp', a', q'⟩⟩⟩
theorem pd_cal0 {G : Cw} (C : Cal X.prog X.w X.K X.mg X.base cls flds k x sp) (hr : Room k X.A) (hg : Gl X x) (tk : Takes X (LW G F Xc)) (hG : G = ⟨X.K, cls, flds⟩ := by rfl) (hdb : (x == ("__debug__" : Str)) = false := by decide) : PD G F X (.Call (.Name x p) [] [] pos) (dCall sp Xc dNil) := by
  subst hG
  exact ⟨⟨fun pins sh σ H Q I ⟨r, S, s, Qd, g, rp, q, kq⟩ => by
    obtain ⟨f, hm, hk, Fk⟩ := C.ex
    refine wpAny_Call_Name_kw (ld_glob I hg hm ?_ hdb)
    refine PySem.W.callWith_K0 I.kIn hk ?_
    exact run_cal Fk hr tk I .nil g rp .nil q fun v H' r' S' d e' g' rp' a' q' => kq _ _ ⟨r', S', s, d, e', g', rp', a', q'⟩⟩⟩
end
section
variable {P : Program} {w : World} {K : PySem.W.Frag} {mg : Str → Option Value} {base : Heap} {cls : Str → Option Addr} {flds : Str → List Str} {k : Nat} {x : Str} {f : Addr} {fd : FuncData} {ps : List Str} {sp : SpD}
theorem Cal.of (Fk : FnOk P w K mg base (L2.CX P w) k f fd ps (liftSp ⟨K, cls, flds⟩ sp)) (hm : mg x = some (.ref f)) (hk : PySem.W.keepIn K (.ref f) = true) (hb : Binds K fd ps []) : Cal P w K mg base cls flds k x sp :=
  ⟨f, hm, hk, (Fk.raw hb (dvs := []) .nil).imp fun vs H Q E h => by rw [List.append_nil]; exact h⟩
/-- with the last parameters left to their defaults -/
theorem Cal.ofD {dd : List Value} {dv : List V} {dvs : List D} (Fk : FnOk P w K mg base (L2.CX P w) k f fd ps (liftSp ⟨K, cls, flds⟩ sp)) (hm : mg x = some (.ref f)) (hk : PySem.W.keepIn K (.ref f) = true) (hb : Binds K fd ps dd) (hd : Vals dv dd) (hdv : ∀ r S, DAts ⟨K, cls, flds⟩ r S dv dvs) : Cal P w K mg base cls flds k x (fun ds Q E => sp (ds ++ dvs) Q E) :=
  ⟨f, hm, hk, (Fk.raw hb hd).imp fun vs H Q E ⟨r, S, ds, Qd, Xd, g, a, q, z⟩ => ⟨r, S, ds ++ dvs, Qd, Xd, g, a.append (hdv r S), q, z⟩⟩
/-- a def that is never called -/
theorem Cal.never (hm : mg x = some (.ref f)) (hk : PySem.W.keepIn K (.ref f) = true) : Cal P w K mg base cls flds k x (fun _ _ _ => False) :=
  ⟨f, hm, hk, fun _ _ _ _ _ _ _ _ _ _ _ ⟨_, _, _, _, _, _, _, q, _⟩ => q.elim⟩
/-- def f(*v) -/
theorem Cal.star (hF : FnR P w K mg base (L2.CX P w) k f (fun vs H Q E => ∃ ws rest, vs = ws ++ rest ∧ ws.length = ([] : List Str).length ∧ rest.length ≤ sizeLine ∧ ∀ p, H p = Option.none → liftSp ⟨K, cls, flds⟩ sp (ws ++ [V.ref p]) (upd H p (.tup rest)) Q E)) (hm : mg x = some (.ref f)) (hk : PySem.W.keepIn K (.ref f) = true) :
    Cal P w K mg base cls flds k x (fun ds Q E => ds.length ≤ sizeLine ∧ sp [.tup ds] Q E) :=
  ⟨f, hm, hk, hF.imp fun vs H Q E ⟨r, S, ds, Qd, Xd, g, a, ⟨hz, q⟩, k1, k2⟩ => by
    refine ⟨[], vs, rfl, rfl, by rw [a.length]; exact hz, fun p hp => ?_⟩
    have gr : Gro S H (upd S p (.tup vs)) (upd H p (.tup vs)) := .new g.sub hp
    have g1 := g.gro gr
    have ad : DAt ⟨K, cls, flds⟩ r (upd S p (.tup vs)) (.ref p) (.tup ds) := .tup (.of upd_same) (by rw [a.length]; exact hz) (a.mono gr.s (.refl _))
    refine ⟨r, _, [.tup ds], Qd, Xd, g1.start, .cons ad .nil, q, fun v H' ⟨r', S', d, e', g', a', q'⟩ => k1 _ _ ⟨r', S', d, (gr.ext r).trans e', g1.after g', a', q'⟩, ?_⟩
    rintro cls d H' ⟨r', S', c, C, dx, ws, es, h1, h2, h3, e', g', h4, h5, h6, h7⟩
    exact k2 _ _ _ ⟨r', S', c, C, dx, ws, es, h1, h2, h3, (gr.ext r).trans e', g1.after g', h4, h5, h6, h7⟩⟩
end
/-! ### a def keeps its promise -/
def startD (n : Nat) (ds : List D) : Sd := ds.map some ++ List.replicate (n - ds.length) none
section
variable {P : Program} {w : World} {K : PySem.W.Frag} {mg : Str → Option Value} {base : Heap} {cls : Str → Option Addr} {flds : Str → List Str}
theorem rep_start {G : Cw} {r : Rt} {S H : Hp} {vs : List V} {ds : List D} {N : List Str} (a : DAts G r S vs ds) : Rep G ⟨H, S, r⟩ r S H (L2.start N vs) (startD N.length ds) := by
  have hl := a.length
  have key : ∀ i d, gd (startD N.length ds) i = some d → ∃ v, gv (L2.start N vs) i = some v ∧ DAt G r S v d := by
    intro i d e
    rw [gd_eq] at e
    unfold startD at e
    by_cases hi : i < ds.length
    · rw [List.getElem?_append_left (by simpa using hi), List.getElem?_map] at e
      cases q : ds[i]? with
      | none => rw [q] at e; simp at e
      | some d' =>
        rw [q] at e
        simp at e
        subst e
        obtain ⟨v, e1, a1⟩ := a.get q
        refine ⟨v, ?_, a1⟩
        unfold gv L2.start
        rw [List.getElem?_append_left (by simp; omega), List.getElem?_map, e1]
        simp
    · rw [List.getElem?_append_right (by simpa using hi), List.getElem?_replicate] at e
      split at e <;> simp at e
  refine ⟨by unfold L2.start startD; simp; omega, fun i => ?_, fun i j ds' es l hij e1 e2 e3 => ?_⟩
  · cases q : gd (startD N.length ds) i with
    | none => trivial
    | some d =>
      obtain ⟨v, e1, a1⟩ := key i d q
      exact slot_of a1.notOwn ⟨v, e1, a1⟩
  · obtain ⟨v, _, a1⟩ := key i _ e1
    cases a1
/-- THE RULE: the def's body derived for any frame, and its reading -/
theorem fnD {x qual : Str} {st : Stmt} {f : Addr} {fd : FuncData} {N ps : List Str} {k : Nat} {sp : SpD} (Fu : Fun K x qual st f fd) (Sc : FnScope N ps (defScope st)) (len : ∀ ds Q E, sp ds Q E → ds.length = ps.length)
    (t : (Str → List D → Prop) → TSd)
    (der : ∀ (Fr : Frm) (Xd : Str → List D → Prop) (cdv : Value) (A : Around) (outer : List Env) (s : Shared) (H : Hp) (E : XK), Room k (A.deeper (PyProof.Rows.envOfC qual (defScope st) s.heap.objs.size f cdv)) →
      Takes (cxOf (L2.CX P w) P w K mg base N qual (defScope st) f cdv A outer s H E) (LW ⟨K, cls, flds⟩ Fr fun c es _ => Xd c es) → PDSs ⟨K, cls, flds⟩ Fr (cxOf (L2.CX P w) P w K mg base N qual (defScope st) f cdv A outer s H E) (defBody st) (t Xd))
    (rd : ∀ ds Qd Xd, sp ds Qd Xd → t Xd { nx := fun _ => Qd .non, rt := Qd, bk := fun _ => False, ct := fun _ => False } (startD N.length ds)) : FnOk P w K mg base (L2.CX P w) (k + 1) f fd ps (liftSp ⟨K, cls, flds⟩ sp) := by
  refine Fu.okX Sc (fun vs H Q E ⟨r, S, ds, Qd, Xd, g, a, q, _⟩ => by rw [a.length]; exact len _ _ _ q) fun cdv A outer s H vs Q E hr ⟨r, S, ds, Qd, Xd, g, a, q, kq, kx⟩ => ?_
  refine ⟨_, (der ⟨H, S, r⟩ Xd cdv A outer s H E hr ?_).ps, r, S, startD N.length ds, _, g, rep_start a, rd ds Qd Xd q, ⟨fun σ' H' ⟨r', S', s', e', g', rp', q'⟩ => kq _ _ ⟨r', S', .non, e', g', .non, q'⟩, kq, fun σ' H' ⟨_, _, _, _, _, _, q'⟩ => q'.elim, fun σ' H' ⟨_, _, _, _, _, _, q'⟩ => q'.elim⟩⟩
  refine (takes_of (E := E) rfl rfl rfl rfl).imp fun c d σ H' h => ?_
  obtain ⟨r', S', s', c', C, dx, ws, es, h1, h2, h3, g', rp', h4, h5, h6, h7⟩ := h
  exact kx _ _ _ ⟨r', S', c', C, dx, ws, es, h1, h2, h3, Ext.after g', g', h4, h5, h6, h7⟩
end

/-! ### comprehensions -/
def wipeD (s : Sd) : List Nat → Sd
  | [] => s
  | v :: vs => sd (wipeD s vs) v none
section
variable {G : Cw} {F : Frm} {X : Cx} {r : Rt} {S H : Hp} {σ : L2.St} {s : Sd}
theorem Rep.wipes (h : Rep G F r S H σ s) : ∀ vs : List Nat, Rep G F r S H (L2.wipe σ vs) (wipeD s vs)
  | [] => h
  | v :: vs => (h.wipes vs).wipe
/-- the wiped slots' values do not matter -/
theorem Rep.unwipe {σ' : L2.St} {vs : List Nat} (h : Rep G F r S H σ' (wipeD s vs)) (e : L2.wipe σ' vs = L2.wipe σ vs) : Rep G F r S H σ (wipeD s vs) := by
  have nn : ∀ (vs : List Nat) (s : Sd) i, i ∈ vs → gd (wipeD s vs) i = none := by
    intro vs
    induction vs with
    | nil => intro s i hi; cases hi
    | cons v vs ih =>
      intro s i hi
      show gd (sd (wipeD s vs) v none) i = none
      by_cases hv : v = i
      · subst hv
        by_cases hl : v < (wipeD s vs).length
        · exact gd_sd_same hl
        · rw [gd_eq, List.getElem?_eq_none (by rw [sd_length]; omega)]; simp
      · rw [gd_sd_ne hv]
        rcases List.mem_cons.mp hi with z | z
        · exact (hv z.symm).elim
        · exact ih s i z
  have out : ∀ (vs : List Nat) (σ : L2.St) i, i ∉ vs → gv (L2.wipe σ vs) i = gv σ i := by
    intro vs
    induction vs with
    | nil => intro σ i _; rfl
    | cons v vs ih =>
      intro σ i hi
      show gv ((L2.wipe σ vs).set v none) i = gv σ i
      rw [gv_set_ne fun z => hi (by rw [z]; exact List.mem_cons_self), ih σ i fun z => hi (List.mem_cons_of_mem _ z)]
  have same : ∀ i, i ∉ vs → gv σ' i = gv σ i := fun i hi => by rw [← out vs σ' i hi, e, out vs σ i hi]
  have hlen : σ'.length = σ.length := by rw [← wipe_length σ' vs, e, wipe_length]
  refine ⟨by rw [← hlen]; exact h.len, fun i => ?_, fun i j ds es l hij e1 e2 e3 e4 => ?_⟩
  · by_cases hi : i ∈ vs
    · rw [nn vs s i hi]; trivial
    · rw [← same i hi]; exact h.slot i
  · have hi : i ∉ vs := fun z => by rw [nn vs s i z] at e1; cases e1
    have hj : j ∉ vs := fun z => by rw [nn vs s j z] at e2; cases e2
    rw [← same i hi] at e3
    rw [← same j hj] at e4
    exact h.dis i j ds es l hij e1 e2 e3 e4
theorem wipeD_none {s : Sd} {i : Nat} : ∀ {vs : List Nat}, i ∈ vs → gd (wipeD s vs) i = none
  | v :: vs, hi => by
    show gd (sd (wipeD s vs) v none) i = none
    by_cases hv : v = i
    · subst hv
      by_cases hl : v < (wipeD s vs).length
      · exact gd_sd_same hl
      · rw [gd_eq, List.getElem?_eq_none (by rw [sd_length]; omega)]; simp
    · rw [gd_sd_ne hv]
      rcases List.mem_cons.mp hi with z | z
      · exact (hv z.symm).elim
      · exact wipeD_none z
/-- the frame with one more object kept: the list that is being made -/
def Frm.plus (F : Frm) (D : Addr) (o : HO) : Frm := ⟨upd F.H D o, F.S, F.r⟩
theorem Good.plus {D : Addr} {o : HO} (g : Good G F r S H) (hD : H D = some o) (hS : S D = none) (hF : F.H D = none) (hb : r.bag ≠ some D) : Good G (F.plus D o) r S H where
  sub := g.sub
  keep := fun a u e n => by
    by_cases z : a = D
    · subst z
      have e' : upd F.H a o a = some u := e
      rw [upd_same] at e'; cases e'; exact hD
    · exact g.keep a u (by have e' : upd F.H D o a = some u := e; rw [upd_ne z] at e'; exact e') n
  frz := fun a u e => by
    by_cases z : a = D
    · subst z
      show S a = F.S a
      rw [hS]
      cases q : F.S a with
      | none => rfl
      | some o2 => rw [g.ext a o2 q] at hS; cases hS
    · exact g.frz a u (by have e' : upd F.H D o a = some u := e; rw [upd_ne z] at e'; exact e')
  ext := g.ext
  bag := g.bag
  rb := fun a e => by
    rcases g.rb a e with h | h
    · exact .inl h
    · refine .inr ?_
      show upd F.H D o a = none
      rw [upd_ne fun z => hb (by rw [← z]; exact e)]
      exact h
  rF := g.rF
theorem Rep.plus {D : Addr} {o : HO} (rp : Rep G F r S H σ s) (no : ∀ j es, gd s j = some (.own es) → gv σ j ≠ some (.ref D)) : Rep G (F.plus D o) r S H σ s :=
  ⟨rp.len, (fun i => by
    have q := rp.slot i
    cases e : gd s i with
    | none => trivial
    | some d =>
      rw [e] at q
      cases n : isOwn d with
      | false => exact slot_of n (slot_val q n)
      | true =>
        cases d with
        | own ds =>
          obtain ⟨l, e1, ex, h1, h2, h3⟩ := q
          exact ⟨l, e1, ex, h1, (upd_ne fun z => no i ds e (by rw [e1, z])).trans h2, h3⟩
        | _ => cases n), rp.dis⟩
theorem Rep.minus {D : Addr} {o : HO} (rp : Rep G (F.plus D o) r S H σ s) : Rep G F r S H σ s ∧ ∀ j es, gd s j = some (.own es) → gv σ j ≠ some (.ref D) := by
  have key : ∀ i ds, gd s i = some (.own ds) → ∃ l, gv σ i = some (.ref l) ∧ l ≠ D ∧ OwnAt G F r S H l ds := fun i ds e => by
    have q := rp.slot i
    rw [e] at q
    obtain ⟨l, e1, ex, h1, h2, h3⟩ := q
    have h2' : upd F.H D o l = none := h2
    have ne : l ≠ D := fun z => by rw [z, upd_same] at h2'; cases h2'
    rw [upd_ne ne] at h2'
    exact ⟨l, e1, ne, ex, h1, h2', h3⟩
  refine ⟨⟨rp.len, fun i => ?_, rp.dis⟩, fun j es e z => ?_⟩
  · cases e : gd s i with
    | none => trivial
    | some d =>
      cases n : isOwn d with
      | false => have q := rp.slot i; rw [e] at q; exact slot_of n (slot_val q n)
      | true =>
        cases d with
        | own ds =>
          obtain ⟨l, e1, _, o1⟩ := key i ds e
          exact ⟨l, e1, o1⟩
        | _ => cases n
  · obtain ⟨l, e1, ne, _⟩ := key j es e
    rw [z] at e1
    cases e1
    exact ne rfl
/-- back, and the list written -/
theorem Good.minus {D : Addr} {o u : HO} (g : Good G (F.plus D o) r S H) (hF : F.H D = none) (hb : F.r.bag ≠ some D) (hFS : F.S D = none) : Good G F r S (upd H D u) ∧ S D = none ∧ r.bag ≠ some D ∧ H D = some o := by
  have hS : S D = none := by rw [g.frz D o upd_same]; exact hFS
  have hr : r.bag ≠ some D := fun z => by
    rcases g.rb D z with h | h
    · exact hb h
    · have h' : upd F.H D o D = none := h
      rw [upd_same] at h'; cases h'
  have hH : H D = some o := g.keep D o upd_same hb
  refine ⟨⟨fun a v e => ?_, fun a v e n => ?_, fun a v e => ?_, g.ext, fun a e => ?_, fun a e => ?_, g.rF⟩, hS, hr, hH⟩
  · rw [upd_ne fun z => by rw [z, hS] at e; cases e]; exact g.sub a v e
  · have ne : a ≠ D := fun z => by rw [z, hF] at e; cases e
    rw [upd_ne ne]
    exact g.keep a v ((upd_ne ne).trans e) n
  · have ne : a ≠ D := fun z => by rw [z, hF] at e; cases e
    exact g.frz a v ((upd_ne ne).trans e)
  · obtain ⟨f, c, ns, x1, x2, x3, x4, e1, l1, q⟩ := g.bag a e
    have ne : a ≠ D := fun z => hr (by rw [← z]; exact e)
    exact ⟨f, c, ns, x1, x2, x3, x4, by rw [upd_ne ne]; exact e1, l1, q⟩
  · rcases g.rb a e with h | h
    · exact .inl h
    · refine .inr ?_
      have h' : upd F.H D o a = none := h
      have ne : a ≠ D := fun z => hr (by rw [← z]; exact e)
      rw [upd_ne ne] at h'; exact h'
end
def compD (g : TGd) (tt : TTd) (te : TEd) (vs : List Nat) : List D → Sd → (List D → Sd → Prop) → Prop
  | [], s, Q => Q [] s
  | x :: xs, s, Q => g x s fun s1 => tt s1 fun c s2 => if c = true then te s2 fun d s3 => compD g tt te vs xs (wipeD s3 vs) fun ds s4 => Q (d :: ds) s4 else compD g tt te vs xs (wipeD s2 vs) Q
def dComp (it : TAd) (g : TGd) (tt : TTd) (te : TEd) (vs : List Nat) : TAd := fun s Q => it s fun xs s1 => xs.length ≤ sizeLine ∧ compD g tt te vs xs (wipeD s1 vs) Q
structure PDTs (G : Cw) (F : Frm) (X : Cx) (ifs : List Expr) (t : TTd) : Prop where pt : PTs X ifs (LT G F t)
def dYes : TTd := fun s Q => Q true s
theorem PTs.imp {X : Cx} {e : List Expr} {t t' : TT} (h : PTs X e t) (i : ∀ σ H Q, t' σ H Q → t σ H Q) : PTs X e t' := ⟨fun pins s σ H Q I q => h.run pins s σ H Q I (i _ _ _ q)⟩
section
variable {G : Cw} {F : Frm} {X : Cx} {c : Expr} {u : TTd}
theorem pdts_nil : PDTs G F X [] dYes := ⟨PTs.imp pts_nil fun σ H Q ⟨r, S, s, Qd, g, rp, q, k⟩ => k _ _ ⟨r, S, s, .refl _ _, g, rp, q⟩⟩
theorem pdts_one (h : PDT G F X c u) : PDTs G F X [c] u := ⟨pts_one h.pt⟩
end
section
variable {G : Cw} {F : Frm} {X : Cx}
theorem PE.ex {e : Expr} {t : Frm → TE} (h : ∀ F, PE X e (t F)) : PE X e (fun σ H Q => ∃ F, t F σ H Q) := ⟨fun pins s σ H Q I ⟨F, q⟩ => (h F).run pins s σ H Q I q⟩
theorem PTs.ex {e : List Expr} {t : Frm → TT} (h : ∀ F, PTs X e (t F)) : PTs X e (fun σ H Q => ∃ F, t F σ H Q) := ⟨fun pins s σ H Q I ⟨F, q⟩ => (h F).run pins s σ H Q I q⟩
theorem PG.ex {e : Expr} {t : Frm → TG} (h : ∀ F, PG X e (t F)) : PG X e (fun v σ H Q => ∃ F, t F v σ H Q) := ⟨fun pins s σ H v u Q I r ⟨F, q⟩ => (h F).run pins s σ H v u Q I r q⟩
theorem comp_of {wi : TAd} {g : TGd} {tt : TTd} {te : TEd} {vs : List Nat} {σ : L2.St} {H : Hp} {r : Rt} {S : Hp} {s : Sd} {Qd : List D → Sd → Prop} {Q : VK} (gd' : Good G F r S H) (rp : Rep G F r S H σ s) (q : dComp wi g tt te vs s Qd) (k : ∀ v H', PoF G F σ r S Qd v H' → Q v H') :
    tLc (LI G F wi) (fun v σ H Q => ∃ F, LG G F vs g v σ H Q) (fun σ H Q => ∃ F, LT G F tt σ H Q) (fun σ H Q => ∃ F, LE G F te σ H Q) vs σ H Q := by
  refine ⟨r, S, s, _, gd', rp, q, fun J H1 r1 S1 s1 xs e1 g1 rp1 wk q1 D0 hD => ?_⟩
  obtain ⟨hsz, q1⟩ := q1
  -- the fresh list
  have new := PoF.new (Qd := fun _ _ => True) (p := D0) (vs := []) (ds := []) (.refl r1 S1) g1 rp1 hD (Nat.zero_le _) .nil trivial
  obtain ⟨_, _, _, _, _, _, gN, rpN, eN, oN, noN, _⟩ := new
  have nF : F.H D0 = none := by
    cases eF : F.H D0 with
    | none => rfl
    | some o => exact (g1.dom' eF hD).elim
  have nb : r1.bag ≠ some D0 := fun z => by
    obtain ⟨_, _, _, _, _, _, _, q, _⟩ := g1.bag D0 z
    rw [hD] at q; cases q
  have nS : S1 D0 = none := by
    cases eS : S1 D0 with
    | none => rfl
    | some o => rw [g1.sub D0 o eS] at hD; cases hD
  have nFb : F.r.bag ≠ some D0 := fun z => nb (g1.rF _ z)
  have nFS : F.S D0 = none := by
    cases eS : F.S D0 with
    | none => rfl
    | some o => rw [g1.ext D0 o eS] at nS; cases nS
  refine ⟨fun i m H => m = xs.length - i ∧ i ≤ xs.length ∧ ∃ r2 S2 s2 us ds, Ext r1 S1 r2 S2 ∧ Good G F r2 S2 H ∧ Rep G F r2 S2 H (L2.wipe σ vs) (wipeD s2 vs) ∧ (∀ j es, gd (wipeD s2 vs) j = some (.own es) → gv (L2.wipe σ vs) j ≠ some (.ref D0)) ∧ H D0 = some (.lst us) ∧ S2 D0 = none ∧ r2.bag ≠ some D0 ∧
    us.length ≤ i ∧ DAts G r2 S2 us ds ∧ compD g tt te vs (xs.drop i) (wipeD s2 vs) (fun es s4 => Qd (ds ++ es) s4), ⟨xs.length, by simp, Nat.zero_le _, r1, S1, s1, [], [], .refl _ _, ?_, ?_, ?_, upd_same, nS, nb, Nat.le_refl _, .nil, ?_⟩, ?_⟩
  · exact (g1.gro (.loose g1.sub hD))
  · exact (rp1.gro (.loose g1.sub hD)).wipes vs
  · intro j es e1' e2'
    have rw1 := (rp1.gro (Gro.loose (o := .lst []) g1.sub hD)).wipes vs
    have rw0 := rp1.wipes vs
    obtain ⟨l, e3, o⟩ := rw0.own e1'
    rw [gv_some] at e2'
    rw [e2'] at e3
    cases e3
    obtain ⟨ws, h1, _⟩ := o.ex
    rw [hD] at h1; cases h1
  · exact q1
  rintro i m H2 ⟨rfl, hi, r2, S2, s2, us, ds, e2, g2, rp2, no2, hD2, hS2, hb2, hlen, a2, q2⟩
  by_cases hlt : i < xs.length
  · refine .inr ⟨wk.go i r2 S2 H2 e2 g2 hlt, _, fun H' p => ⟨xs.length - (i + 1), by omega, rfl, hlt, p⟩, fun x H3 y => ?_⟩
    obtain ⟨S3, d, gr, ed, ad⟩ := wk.yld i x H2 H3 r2 S2 e2 g2 hlt y
    have e3 : xs.drop i = d :: xs.drop (i + 1) := by
      obtain ⟨_, e4⟩ := List.getElem?_eq_some_iff.mp ed
      rw [← e4]
      exact List.drop_eq_getElem_cons hlt
    rw [e3] at q2
    have g3 := g2.gro gr
    have rp3 := rp2.gro gr
    have hD3 : H3 D0 = some (.lst us) := gr.h _ _ hD2
    have hS3 : S3 D0 = none := by rw [gr.old D0 (by rw [hD2]; simp)]; exact hS2
    have g3p := g3.plus (o := .lst us) hD3 hS3 nF hb2
    have rp3p := rp3.plus (D := D0) (o := .lst us) no2
    have e23 : Ext r1 S1 r2 S3 := e2.trans (gr.ext r2)
    have a3 : DAts G r2 S3 us ds := a2.mono gr.s (.refl _)
    -- the end of a turn: x added or not
    have back : ∀ {H5 : Hp} {r5 : Rt} {S5 : Hp} {s5 : Sd} {σ5 : L2.St} (zs : List V), Good G (F.plus D0 (.lst us)) r5 S5 H5 → Rep G (F.plus D0 (.lst us)) r5 S5 H5 σ5 s5 → L2.wipe σ5 vs = L2.wipe σ vs →
        Good G F r5 S5 (upd H5 D0 (.lst zs)) ∧ Rep G F r5 S5 (upd H5 D0 (.lst zs)) (L2.wipe σ vs) (wipeD s5 vs) ∧ (∀ j es, gd (wipeD s5 vs) j = some (.own es) → gv (L2.wipe σ vs) j ≠ some (.ref D0)) ∧ S5 D0 = none ∧ r5.bag ≠ some D0 ∧ H5 D0 = some (.lst us) := by
      intro H5 r5 S5 s5 σ5 zs g5 rp5 ew
      obtain ⟨g6, hS, hr, hH⟩ := g5.minus (u := .lst zs) nF nFb nFS
      obtain ⟨rp6, no6⟩ := (rp5.wipes vs).minus
      rw [ew] at rp6 no6
      refine ⟨g6, rp6.mono (.refl _ _) fun j l es e1 e2 o => ⟨upd_ne fun z => ?_, o.s, o.b⟩, no6, hS, hr, hH⟩
      subst z
      exact no6 j es e1 e2
    refine ⟨F.plus D0 (.lst us), r2, S3, wipeD s2 vs, d, _, g3p, rp3p, ad, q2, fun σ4 H4 ⟨r4, S4, s4, e4, g4, rp4, q4⟩ ew => ?_⟩
    have ew' : L2.wipe σ4 vs = L2.wipe σ vs := ew.trans wipe_idem
    refine ⟨ew', F.plus D0 (.lst us), LT.use g4 rp4 q4 fun b H5 r5 S5 s5 e5 g5 rp5 q5 => ?_⟩
    cases b with
    | false =>
      obtain ⟨g6, rp6, no6, hS6, hb6, hH6⟩ := back us g5 rp5 ew'
      have eH : upd H5 D0 (.lst us) = H5 := by
        funext a
        by_cases z : a = D0
        · rw [z, upd_same, hH6]
        · rw [upd_ne z]
      rw [eH] at g6 rp6
      have e6 : Ext r1 S1 r5 S5 := e23.trans (e4.trans e5)
      exact ⟨r5, S5, s5, us, ds, e6, g6, rp6, no6, hH6, hS6, hb6, by omega, a3.ext (e4.trans e5), q5⟩
    | true =>
      refine ⟨F.plus D0 (.lst us), LE.use g5 rp5 q5 fun y H7 r7 S7 s7 d7 e7 g7 rp7 a7 q7 => ?_⟩
      obtain ⟨g8, rp8, no8, hS8, hb8, hH8⟩ := back (us ++ [y]) g7 rp7 ew'
      have e8 : Ext r1 S1 r7 S7 := e23.trans (e4.trans (e5.trans e7))
      refine ⟨us, hH8, by omega, r7, S7, s7, us ++ [y], ds ++ [d7], e8, g8, rp8, no8, upd_same, hS8, hb8, by simp; omega, (a3.ext (e4.trans (e5.trans e7))).append (.cons a7 .nil), ?_⟩
      have e9 : (fun es s4 => Qd (ds ++ [d7] ++ es) s4) = fun es s4 => Qd (ds ++ (d7 :: es)) s4 := by
        funext es s4
        rw [List.append_assoc]
        rfl
      rw [e9]
      exact q7
  · have e : i = xs.length := by omega
    subst e
    rw [List.drop_length] at q2
    have same : ∀ j, j ∉ vs → gv (L2.wipe σ vs) j = gv σ j := fun j hj => by
      unfold gv
      rw [wipe_get, if_neg fun z => hj z.1]
    have nn : ∀ j es, gd (wipeD s2 vs) j = some (.own es) → j ∉ vs := fun j es h1 hj => by
      have h2 := gd_lt h1
      have h3 : gd (wipeD s2 vs) j = none := wipeD_none hj
      rw [h3] at h1; cases h1
    refine .inl ⟨wk.stop r2 S2 H2 e2 g2, k _ _ ⟨r2, S2, wipeD s2 vs, D0, ds, e1.trans e2, g2, rp2.unwipe wipe_idem, rfl, ⟨⟨us, hD2, by omega, a2⟩, hS2, nF, hb2⟩, fun j es h1 h2 => ?_, ?_⟩⟩
    · rw [← same j (nn j es h1)] at h2
      exact no2 j es h1 h2
    · have q3 : Qd (ds ++ []) (wipeD s2 vs) := q2
      rw [List.append_nil] at q3
      exact q3
theorem pdf_comp {elt tg iter : Expr} {ifs : List Expr} {scope : Scope} {own : List (Str × Nat)} {pos : Pos} {wi : TAd} {g : TGd} {tt : TTd} {te : TEd} (hc : X.calm = true) (hN : X.N.Nodup) (hi : PDI G F X tg iter wi) (ok : BlkOk X.N X.env.scope scope own)
    (hg : ∀ (F : Frm) (s : Shared) (H : Hp) (C : Addr) (cl : List (Str × Addr)) (fp : List Addr), PDG G F (X.blk s H scope (compEnvC scope cl C X.env) fp) (own.map (·.2)) tg g) (ht : ∀ (F : Frm) (s : Shared) (H : Hp) (C : Addr) (cl : List (Str × Addr)) (fp : List Addr), PDTs G F (X.blk s H scope (compEnvC scope cl C X.env) fp) ifs tt)
    (he : ∀ (F : Frm) (s : Shared) (H : Hp) (C : Addr) (cl : List (Str × Addr)) (fp : List Addr), PD G F (X.blk s H scope (compEnvC scope cl C X.env) fp) elt te) (hs : ∀ x, foldedSetIterable iter X.env x = pure x := by intro _; rfl) :
    PDF G F X (.ListComp elt [⟨tg, iter, ifs, 0⟩] scope pos) (dComp wi g tt te (own.map (·.2))) :=
  PDF.ofQ (pe_lc hc hN hi.pi ok (fun s H C cl fp => PG.ex fun F => (hg F s H C cl fp).pg) (fun s H C cl fp => PTs.ex fun F => (ht F s H C cl fp).pt) (fun s H C cl fp => PE.ex fun F => (he F s H C cl fp).pe) hs) fun σ H r S s Qd Q gd rp q k => comp_of gd rp q k
/-- y = [..], the name a local: as the slot's own list, or frozen -/
theorem pds_ownLc {i : Nat} {y : Str} {py : Pos} {elt tg iter : Expr} {ifs : List Expr} {scope : Scope} {own : List (Str × Nat)} {pos spos : Pos} {wi : TAd} {g : TGd} {tt : TTd} {te : TEd} (hc : X.calm = true) (hN : X.N.Nodup) (hy : X.N[i]? = some y) (hyl : X.env.scope.names.lookup y = some .local)
    (hsw : swapsWith (.ListComp elt [⟨tg, iter, ifs, 0⟩] scope pos) (some (.Name y py)) spos.line X.env = pure true) (hi : PDI G F X tg iter wi) (ok : BlkOk X.N X.env.scope scope own)
    (hg : ∀ (F : Frm) (s : Shared) (H : Hp) (C : Addr) (cl : List (Str × Addr)) (fp : List Addr), PDG G F (X.blk s H scope (compEnvC scope cl C X.env) fp) (own.map (·.2)) tg g) (ht : ∀ (F : Frm) (s : Shared) (H : Hp) (C : Addr) (cl : List (Str × Addr)) (fp : List Addr), PDTs G F (X.blk s H scope (compEnvC scope cl C X.env) fp) ifs tt)
    (he : ∀ (F : Frm) (s : Shared) (H : Hp) (C : Addr) (cl : List (Str × Addr)) (fp : List Addr), PD G F (X.blk s H scope (compEnvC scope cl C X.env) fp) elt te) (hs : ∀ x, foldedSetIterable iter X.env x = pure x := by intro _; rfl) :
    PDS G F X (.Assign [.Name y py] (.ListComp elt [⟨tg, iter, ifs, 0⟩] scope pos) spos) (dOwn i (dComp wi g tt te (own.map (·.2)))) :=
  PDS.ofQ (ps_setLc hc hN hy hyl hsw hi.pi ok (fun s H C cl fp => PG.ex fun F => (hg F s H C cl fp).pg) (fun s H C cl fp => PTs.ex fun F => (ht F s H C cl fp).pt) (fun s H C cl fp => PE.ex fun F => (he F s H C cl fp).pe) hs) fun E σ H r S s Ed gd rp q k => comp_of gd rp q fun v H' h => by
    obtain ⟨r', S', s1, e', g', rp', ds, s2, q', es⟩ := own_set (i := i) h
    subst es
    exact k.nx _ _ ⟨r', S', _, e', g', rp', q'⟩
theorem freeze_of {σ : L2.St} {r : Rt} {S : Hp} {Qd : List D → Sd → Prop} {v : V} {H' : Hp} (h : PoF G F σ r S Qd v H') : Po G F σ r S (fun d s => ∃ ds, d = .lst ds ∧ Qd ds s) v H' := by
  obtain ⟨r', S', s', l, ds, e1, g', rp', ev, o, no, q'⟩ := h
  subst ev
  obtain ⟨vs, hl, hz, a⟩ := o.ex
  obtain ⟨g2, ex⟩ := g'.freeze o hl
  refine ⟨r', _, s', .lst ds, e1.trans ex, g2, ?_, .lst upd_same hz (a.ext ex), ds, rfl, q'⟩
  refine rp'.mono ex fun i m es e2 e3 o2 => ⟨rfl, ?_, o2.b⟩
  rw [upd_ne]
  · exact o2.s
  · rintro rfl
    exact no i es e2 e3
theorem pds_setLc {i : Nat} {y : Str} {py : Pos} {elt tg iter : Expr} {ifs : List Expr} {scope : Scope} {own : List (Str × Nat)} {pos spos : Pos} {wi : TAd} {g : TGd} {tt : TTd} {te : TEd} (hc : X.calm = true) (hN : X.N.Nodup) (hy : X.N[i]? = some y) (hyl : X.env.scope.names.lookup y = some .local)
    (hsw : swapsWith (.ListComp elt [⟨tg, iter, ifs, 0⟩] scope pos) (some (.Name y py)) spos.line X.env = pure true) (hi : PDI G F X tg iter wi) (ok : BlkOk X.N X.env.scope scope own)
    (hg : ∀ (F : Frm) (s : Shared) (H : Hp) (C : Addr) (cl : List (Str × Addr)) (fp : List Addr), PDG G F (X.blk s H scope (compEnvC scope cl C X.env) fp) (own.map (·.2)) tg g) (ht : ∀ (F : Frm) (s : Shared) (H : Hp) (C : Addr) (cl : List (Str × Addr)) (fp : List Addr), PDTs G F (X.blk s H scope (compEnvC scope cl C X.env) fp) ifs tt)
    (he : ∀ (F : Frm) (s : Shared) (H : Hp) (C : Addr) (cl : List (Str × Addr)) (fp : List Addr), PD G F (X.blk s H scope (compEnvC scope cl C X.env) fp) elt te) (hs : ∀ x, foldedSetIterable iter X.env x = pure x := by intro _; rfl) :
    PDS G F X (.Assign [.Name y py] (.ListComp elt [⟨tg, iter, ifs, 0⟩] scope pos) spos) (dSet i (dFr (dComp wi g tt te (own.map (·.2))))) :=
  PDS.ofQ (ps_setLc hc hN hy hyl hsw hi.pi ok (fun s H C cl fp => PG.ex fun F => (hg F s H C cl fp).pg) (fun s H C cl fp => PTs.ex fun F => (ht F s H C cl fp).pt) (fun s H C cl fp => PE.ex fun F => (he F s H C cl fp).pe) hs) fun E σ H r S s Ed gd rp q k => comp_of (Qd := fun ds s1 => Ed.nx (sd s1 i (some (.lst ds)))) gd rp q fun v H' h => by
    obtain ⟨r', S', s', d, e', g', rp', a, ds, ed, q'⟩ := freeze_of h
    subst ed
    exact k.nx _ _ ⟨r', S', _, e', g', rp'.set a, q'⟩
end
end DL

set_option Elab.async false
set_option linter.all false
set_option maxRecDepth 100000
set_option maxHeartbeats 4000000
/-! DL6: isinstance, texts, lists that are changed. -/
namespace DL
open PySem PySem.Spec L2
section
variable {G : Cw} {F : Frm} {X : Cx} {e a b c : Expr} {t ta tb tc : TEd} {pos p p1 p2 p3 : Pos} {es : List Expr} {x : Str}

/-! ### isinstance with built-in classes -/
def tyName : D → Option String
  | .non => some "NoneType"
  | .bl _ => some "bool"
  | .int _ => some "int"
  | .str _ => some "str"
  | .tup _ => some "tuple"
  | .lst _ => some "list"
  | _ => none
theorem tyX_of {r : Rt} {S H : Hp} {v : V} {d : D} {n : String} (a : DAt G r S v d) (sub : Same S H) (h : tyName d = some n) : TyX G.K H v (.type n) := by
  cases a with
  | non => cases h; exact .base .non
  | bl k => cases h; exact .base (.bl k)
  | int i => cases h; exact .base (.int i)
  | str z => cases h; exact .base (.str z)
  | lst h1 _ _ => cases h; exact .base (.lst (sub _ _ h1))
  | tup h1 _ _ =>
    cases h
    rcases h1 with (h1 | ⟨o, h1⟩) | ⟨o, its, n, h1, h2, _⟩
    · exact .base (.tup (sub _ _ h1))
    · exact .fTuple (sub _ _ h1)
    · exact .kTuple h1 h2
  | _ => cases h
/-- the answer -/
def isB (T : String) (d : D) : Option Bool := (tyName d).bind fun a => kitB a T
def dIsi (f : D → Option Bool) (t : TEd) : TEd := fun s Q => t s fun d s1 => match f d with
  | some k => Q (.bl k) s1
  | none => False
theorem pd_isi {T : String} {tn : Str} (hg : Gl X "isinstance") (hm : X.mg "isinstance" = none) (hx : Gl X tn) (hmx : X.mg tn = none) (hv : bootBuiltins tn = some (.type T)) (he : PD G F X e t) (hK : X.K = G.K := by rfl) (hn : tn ≠ "__name__" := by decide) (hd : (tn == ("__debug__" : Str)) = false := by decide)
    (h1 : starEach [e, .Name tn p1] X.env = (false, eval e X.env) :: starEach [.Name tn p1] X.env := by rfl) (h2 : starEach [.Name tn p1] X.env = (false, eval (.Name tn p1) X.env) :: starEach [] X.env := by rfl) (hpl : (backTo pos (starEach [.Name tn p1] X.env)).any (·.1) = false := by rfl) :
    PD G F X (.Call (.Name "isinstance" p) [e, .Name tn p1] [] pos) (dIsi (isB T) t) :=
  PD.ofQ (pe_callB call_isi hg hm PyProof.Rows.boot_isinstance (pa_cons he.pe (pa_cons (pe_bltn (v := .ty T) hx hmx hv rfl hn hd) pa_nil h2) h1) (he := h1) (hpl := hpl)) fun σ H r S s Qd Q g rp q k => LE.use g rp q fun v H' r' S' s' d e' g' rp' a q' => by
    cases hn : isB T d with
    | none => rw [hn] at q'; exact q'.elim
    | some kb =>
      rw [hn] at q'
      unfold isB at hn
      cases ht : tyName d with
      | none => rw [ht] at hn; cases hn
      | some n =>
        rw [ht] at hn
        exact ⟨v, .ty T, .type n, .type T, kb, rfl, .ty T, by rw [hK]; exact tyX_of a g'.sub ht, kit_ty hn, k _ _ ⟨r', S', s', .bl kb, e', g', rp', .bl kb, q'⟩⟩
/-- isinstance(e, (T1, T2)) -/
def isB2 (T1 T2 : String) (d : D) : Option Bool := match isB T1 d, isB T2 d with
  | some i, some j => some (i || j)
  | _, _ => none
theorem pd_isi2 {T1 T2 : String} {t1 t2 : Str} {kk : Nat} (hg : Gl X "isinstance") (hm : X.mg "isinstance" = none) (hx1 : Gl X t1) (hm1 : X.mg t1 = none) (hv1 : bootBuiltins t1 = some (.type T1)) (hx2 : Gl X t2) (hm2 : X.mg t2 = none) (hv2 : bootBuiltins t2 = some (.type T2)) (he : PD G F X e t) (hK : X.K = G.K := by rfl)
    (hn1 : t1 ≠ "__name__" := by decide) (hd1 : (t1 == ("__debug__" : Str)) = false := by decide) (hn2 : t2 ≠ "__name__" := by decide) (hd2 : (t2 == ("__debug__" : Str)) = false := by decide)
    (h1 : starEach [e, .Tuple [.Name t1 p1, .Name t2 p2] kk p3] X.env = (false, eval e X.env) :: starEach [.Tuple [.Name t1 p1, .Name t2 p2] kk p3] X.env := by rfl) (h2 : starEach [.Tuple [.Name t1 p1, .Name t2 p2] kk p3] X.env = (false, eval (.Tuple [.Name t1 p1, .Name t2 p2] kk p3) X.env) :: starEach [] X.env := by rfl)
    (h3 : starEach [.Name t1 p1, .Name t2 p2] X.env = (false, eval (.Name t1 p1) X.env) :: starEach [.Name t2 p2] X.env := by rfl) (h4 : starEach [.Name t2 p2] X.env = (false, eval (.Name t2 p2) X.env) :: starEach [] X.env := by rfl)
    (hpl : (backTo pos (starEach [.Tuple [.Name t1 p1, .Name t2 p2] kk p3] X.env)).any (·.1) = false := by rfl) :
    PD G F X (.Call (.Name "isinstance" p) [e, .Tuple [.Name t1 p1, .Name t2 p2] kk p3] [] pos) (dIsi (isB2 T1 T2) t) :=
  PD.ofQ (pe_callB call_isiT hg hm PyProof.Rows.boot_isinstance (pa_cons he.pe (pa_cons (pe_tup (pa_cons (pe_bltn (v := .ty T1) hx1 hm1 hv1 rfl hn1 hd1) (pa_cons (pe_bltn (v := .ty T2) hx2 hm2 hv2 rfl hn2 hd2) pa_nil h4) h3)) pa_nil h2) h1) (he := h1) (hpl := hpl)) fun σ H r S s Qd Q g rp q k => LE.use g rp q fun v H' r' S' s' d e' g' rp' a q' => by
    refine ⟨by show 2 ≤ sizeLine; decide, fun tp htp => ?_⟩
    have gr : Gro S' H' S' (upd H' tp (.tup [.ty T1, .ty T2])) := .loose g'.sub htp
    cases hn : isB2 T1 T2 d with
    | none => rw [hn] at q'; exact q'.elim
    | some kb =>
      rw [hn] at q'
      unfold isB2 isB at hn
      cases ht : tyName d with
      | none => rw [ht] at hn; cases hn
      | some n =>
        rw [ht] at hn
        simp only [Option.bind_some] at hn
        cases k1 : kitB n T1 with
        | none => rw [k1] at hn; cases hn
        | some b1 =>
          cases k2 : kitB n T2 with
          | none => rw [k1, k2] at hn; cases hn
          | some b2 =>
            rw [k1, k2] at hn
            cases hn
            refine ⟨v, tp, _, .type n, _, b1 || b2, rfl, upd_same, .cons (.ty T1) (.cons (.ty T2) .nil), by rw [hK]; exact tyX_of a (g'.gro gr).sub ht, ?_, k _ _ ⟨r', S', s', .bl (b1 || b2), e', g'.gro gr, rp'.gro gr, .bl _, q'⟩⟩
            refine kitAny_cons (kit_ty k1) (fun e1 => ?_) fun e1 => by rw [e1]; rfl
            rw [e1, Bool.false_or]
            exact kitAny_cons (kit_ty k2) (fun e2 => by rw [e2]; exact kitAny_nil) fun e2 => e2

/-! ### texts -/
def asStrs : List D → Option (List Str)
  | [] => some []
  | .str k :: r => (asStrs r).map (k :: ·)
  | _ => none
theorem asStrs_vals {r : Rt} {S : Hp} : ∀ {vs : List V} {ds : List D} {bs : List Str}, DAts G r S vs ds → asStrs ds = some bs → vs = bs.map V.str
  | _, _, bs, .nil, e => by cases e; rfl
  | _, _, bs, .cons h t, e => by
    cases h <;> try (simp [asStrs] at e)
    obtain ⟨b2, e2, rfl⟩ := e
    rw [asStrs_vals t e2, List.map_cons]
/-- a text's method with one argument -/
def dStrM (f : Str → D → (D → Prop) → Prop) (ta tb : TEd) : TEd := fun s Q => ta s fun x s1 => match x with
  | .str z => tb s1 fun y s2 => f z y fun d => Q d s2
  | _ => False
/-- sep.join(xs) -/
def rJoin (z : Str) : D → (D → Prop) → Prop := fun y Q => match y with
  | .lst ds => (match asStrs ds with | some ys => (ys.map (·.length)).sum + ys.length * z.length ≤ 16777216 ∧ Q (.str (Txt.join z ys)) | none => False)
  | .tup ds => (match asStrs ds with | some ys => (ys.map (·.length)).sum + ys.length * z.length ≤ 16777216 ∧ Q (.str (Txt.join z ys)) | none => False)
  | _ => False
theorem pd_join {apos : Pos} (ha : PD G F X a ta) (hb : PD G F X b tb) (hK : X.K = G.K := by rfl) (hs : starEach [b] X.env = [(false, eval b X.env)] := by rfl) (hbase : attributeBase a "join" X.env (eval a X.env) = eval a X.env := by rfl) (hline : (apos.endLine == pos.line) = true := by rfl) :
    PD G F X (.Call (.Attribute a "join" apos) [b] [] pos) (dStrM rJoin ta tb) :=
  PD.ofQ (pe_join ha.pe hb.pe hs hbase hline) fun σ H r S s Qd Q g rp q k => LE.use g rp q fun x H1 r1 S1 s1 d1 e1 g1 rp1 a1 q1 => by
    cases a1 with
    | str z =>
      refine ⟨⟨z, rfl⟩, LE.use g1 rp1 q1 fun y H2 r2 S2 s2 d2 e2 g2 rp2 a2 q2 => ?_⟩
      cases a2 with
      | lst h1 z1 b1 =>
        rename_i vs ds
        have q3 : match asStrs ds with | some ys => (ys.map (·.length)).sum + ys.length * z.length ≤ 16777216 ∧ Qd (.str (Txt.join z ys)) s2 | none => False := q2
        cases es : asStrs ds with
        | none => rw [es] at q3; exact q3.elim
        | some ys =>
          rw [es] at q3
          refine ⟨z, _, ys, rfl, rfl, .inl ?_, q3.1, k _ _ ⟨r2, S2, s2, _, e1.trans e2, g2, rp2, .str _, q3.2⟩⟩
          rw [← asStrs_vals b1 es]
          exact SqL.of (g2.sub _ _ h1)
      | tup h1 z1 b1 =>
        rename_i vs ds
        have q3 : match asStrs ds with | some ys => (ys.map (·.length)).sum + ys.length * z.length ≤ 16777216 ∧ Qd (.str (Txt.join z ys)) s2 | none => False := q2
        cases es : asStrs ds with
        | none => rw [es] at q3; exact q3.elim
        | some ys =>
          rw [es] at q3
          refine ⟨z, _, ys, rfl, rfl, .inr ?_, q3.1, k _ _ ⟨r2, S2, s2, _, e1.trans e2, g2, rp2, .str _, q3.2⟩⟩
          rw [← asStrs_vals b1 es, hK]
          exact sqT_sub g2.sub h1
      | _ => exact q2.elim
    | _ => exact q1.elim
/-- s.split(sep): a fresh list -/
def dSplit (ta tb : TEd) : TAd := fun s Q => ta s fun x s1 => match x with
  | .str z => tb s1 fun y s2 => match y with
    | .str w => ((w.length == 0) = false ∧ z.length + 2 ≤ sizeLine ∧ (Txt.split z w).length ≤ sizeLine) ∧ Q ((Txt.split z w).map .str) s2
    | _ => False
  | _ => False
theorem strs_at {r : Rt} {S : Hp} : ∀ ys : List Str, DAts G r S (ys.map V.str) (ys.map D.str)
  | [] => .nil
  | y :: ys => .cons (.str y) (strs_at ys)
theorem pdf_split {apos : Pos} (ha : PD G F X a ta) (hb : PD G F X b tb) (hs : starEach [b] X.env = [(false, eval b X.env)] := by rfl) (hbase : attributeBase a "split" X.env (eval a X.env) = eval a X.env := by rfl) (hline : (apos.endLine == pos.line) = true := by rfl) :
    PDF G F X (.Call (.Attribute a "split" apos) [b] [] pos) (dSplit ta tb) :=
  PDF.ofQ (pe_split ha.pe hb.pe hs hbase hline) fun σ H r S s Qd Q g rp q k => LE.use g rp q fun x H1 r1 S1 s1 d1 e1 g1 rp1 a1 q1 => by
    cases a1 with
    | str z =>
      refine ⟨⟨z, rfl⟩, LE.use g1 rp1 q1 fun y H2 r2 S2 s2 d2 e2 g2 rp2 a2 q2 => ?_⟩
      cases a2 with
      | str w => exact ⟨z, w, rfl, rfl, q2.1.1, q2.1.2.1, fun l hl => k _ _ (PoF.new (e1.trans e2) g2 rp2 hl (by rw [List.length_map]; exact q2.1.2.2) (strs_at _) q2.2)⟩
      | _ => exact q2.elim
    | _ => exact q1.elim
/-- f'{e}' -/
def dFmt (t : TEd) : TEd := fun s Q => t s fun d s1 => match d with
  | .str y => y.length ≤ sizeLine ∧ Q (.str y) s1
  | .int i => i.natAbs.log2 < 1920 ∧ Q (.str (toString i)) s1
  | _ => False
theorem pd_fmt (he : PD G F X e t) : PD G F X (.FormattedValue e (-1) none pos) (dFmt t) :=
  PD.ofQ (pe_fmt he.pe) fun σ H r S s Qd Q g rp q k => LE.use g rp q fun v H' r' S' s' d e' g' rp' a q' => by
    cases a with
    | str y => exact .inl ⟨y, rfl, q'.1, k _ _ ⟨r', S', s', _, e', g', rp', .str _, q'.2⟩⟩
    | int i => exact .inr ⟨i, rfl, q'.1, k _ _ ⟨r', S', s', _, e', g', rp', .str _, q'.2⟩⟩
    | _ => exact q'.elim
inductive PDJ (G : Cw) (F : Frm) (X : Cx) : List Expr → List TEd → Prop
  | nil : PDJ G F X [] []
  | cons {e : Expr} {t : TEd} {es : List Expr} {ts : List TEd} (h : PD G F X e t) (r : PDJ G F X es ts) : PDJ G F X (e :: es) (t :: ts)
def dJs : List TEd → Str → Sd → (Str → Sd → Prop) → Prop
  | [], acc, s, Q => Q acc s
  | t :: ts, acc, s, Q => t s fun x s1 => match x with
    | .str y => (acc ++ y).length ≤ sizeLine ∧ dJs ts (acc ++ y) s1 Q
    | _ => False
def dJoined (ts : List TEd) : TEd := fun s Q => dJs ts Str.empty s fun out s1 => Q (.str out) s1
theorem PDJ.pj : ∀ {es : List Expr} {ts : List TEd}, PDJ G F X es ts → PJ X es (ts.map (LE G F))
  | _, _, .nil => .nil
  | _, _, .cons h r => .cons h.pe r.pj
theorem tJs_of {σ : L2.St} : ∀ (ts : List TEd) (acc : Str) {r : Rt} {S H : Hp} {s : Sd} {Qd : Str → Sd → Prop} {Q : Str → Hp → Prop}, Good G F r S H → Rep G F r S H σ s → dJs ts acc s Qd →
    (∀ out H' r' S' s', Ext r S r' S' → Good G F r' S' H' → Rep G F r' S' H' σ s' → Qd out s' → Q out H') → tJs (ts.map (LE G F)) acc σ H Q
  | [], acc, r, S, H, s, Qd, Q, g, rp, q, k => k acc H r S s (.refl _ _) g rp q
  | t :: ts, acc, r, S, H, s, Qd, Q, g, rp, q, k => LE.use g rp q fun v H' r' S' s' d e' g' rp' a q' => by
    cases a with
    | str y => exact ⟨y, rfl, q'.1, tJs_of ts (acc ++ y) g' rp' q'.2 fun out H2 r2 S2 s2 e2 g2 rp2 q2 => k out H2 r2 S2 s2 (e'.trans e2) g2 rp2 q2⟩
    | _ => exact q'.elim
theorem pd_joined {v1 v2 : Expr} {rest : List Expr} {ts : List TEd} (h : PDJ G F X (v1 :: v2 :: rest) ts) : PD G F X (.JoinedStr (v1 :: v2 :: rest) pos) (dJoined ts) :=
  PD.ofQ (pe_joined h.pj) fun σ H r S s Qd Q g rp q k => tJs_of ts Str.empty g rp q fun out H' r' S' s' e' g' rp' q' => k _ _ ⟨r', S', s', _, e', g', rp', .str _, q'⟩
theorem pd_joined1 (he : PD G F X e t) : PD G F X (.JoinedStr [e] pos) t := ⟨pe_joined1 he.pe⟩

/-! ### a slot's own list -/
/-- len(x), x a list of the slot's own -/
def dLenOwn (i : Nat) : TEd := fun s Q => match gd s i with
  | some (.own ds) => Q (.int ds.length) s
  | _ => False
theorem pd_lenOwn (i : Nat) (hg : Gl X "len") (hm : X.mg "len" = none) (hv : PE X (.Name x p1) (tVar i)) (he : starEach [.Name x p1] X.env = (false, eval (.Name x p1) X.env) :: starEach [] X.env := by rfl) (hpl : (backTo pos (starEach [] X.env)).any (·.1) = false := by rfl) : PD G F X (.Call (.Name "len" p) [.Name x p1] [] pos) (dLenOwn i) :=
  PD.ofQ (pe_callB call_len hg hm PySem.boot_len (pa_cons hv pa_nil he) (he := he) (hpl := hpl)) fun σ H r S s Qd Q g rp q k => by
    unfold dLenOwn at q
    cases e1 : gd s i with
    | none => rw [e1] at q; exact q.elim
    | some d =>
      rw [e1] at q
      cases d with
      | own ds =>
        obtain ⟨l, ev, o⟩ := rp.own e1
        obtain ⟨vs, hl, hz, a⟩ := o.ex
        exact ⟨_, ev, _, _, rfl, .inl ⟨_, SqL.of hl, rfl⟩, k _ _ ⟨r, S, s, _, .refl _ _, g, rp, .int _, by rw [a.length]; exact q⟩⟩
      | _ => exact q.elim
/-- writing the own list keeps the rest -/
theorem Good.writeOwn {r : Rt} {S H : Hp} {l : Addr} {ds : List D} {u : HO} (g : Good G F r S H) (o : OwnAt G F r S H l ds) : Good G F r S (upd H l u) := by
  refine ⟨fun a v e => ?_, fun a v e n => ?_, g.frz, g.ext, fun a e => ?_, g.rb, g.rF⟩
  · rw [upd_ne (ne_of_none e o.s)]; exact g.sub a v e
  · rw [upd_ne (ne_of_none e o.f)]; exact g.keep a v e n
  · obtain ⟨f, c, ns, x1, x2, x3, x4, e1, l1, q⟩ := g.bag a e
    have ne : a ≠ l := fun z => o.b (by rw [← z]; exact e)
    exact ⟨f, c, ns, x1, x2, x3, x4, by rw [upd_ne ne]; exact e1, l1, q⟩
/-- x.m(e): m a list's method that gives y and leaves es -/
def dOwnM (i : Nat) (f : List D → D → (D → List D → Prop) → Prop) (t : TEd) : TEd := fun s Q => match gd s i with
  | some (.own _) => t s fun d s1 => match gd s1 i with
    | some (.own ds) => f ds d fun y es => Q y (sd s1 i (some (.own es)))
    | _ => False
  | _ => False
/-- what the method's rule by values says -/
def MutD (rr : V → List V → Hp → VK → Prop) (f : List D → D → (D → List D → Prop) → Prop) : Prop := ∀ (G : Cw) (r : Rt) (S H : Hp) (l : Addr) (vs : List V) (ds : List D) (v : V) (d : D) (Qf : D → List D → Prop) (Q : VK),
  H l = some (.lst vs) → vs.length ≤ sizeLine → DAts G r S vs ds → DAt G r S v d → f ds d Qf → (∀ y ws dy es, ws.length ≤ sizeLine → DAts G r S ws es → DAt G r S y dy → Qf dy es → Q y (upd H l (.lst ws))) → rr (.ref l) [v] H Q
theorem pd_ownM {rr : V → List V → Hp → VK → Prop} {f : List D → D → (D → List D → Prop) → Prop} {name : Str} {id : String} {apos : Pos} (i : Nat) (md : MutD rr f) (slot : Slot "list" name id) (hty : typeOf (.builtin id) = pure (.type "method_descriptor")) (hm : MtR X id rr) (hv : PE X (.Name x p) (tVar i)) (he : PD G F X e t)
    (hbase : attributeBase (.Name x p) name X.env (eval (.Name x p) X.env) = eval (.Name x p) X.env := by rfl)
    (hfew : ((backTo pos (starEach [e] X.env)).all (fun x => !x.1) && (backToKw pos (keywordEach [] X.env)).all (fun x => x.1.isSome)
      && decide ([e].length + ([] : List Keyword).length + (if ([] : List Keyword).isEmpty then 0 else 1) < 30)) = true := by rfl)
    (hline : (apos.endLine == pos.line) = true := by rfl) (hs : starEach [e] X.env = (false, eval e X.env) :: starEach [] X.env := by rfl) (hplain : (backTo pos (starEach [] X.env)).any (·.1) = false := by rfl) :
    PD G F X (.Call (.Attribute (.Name x p) name apos) [e] [] pos) (dOwnM i f t) :=
  PD.ofQ (pe_bm PySem.F.plainAttrs_list slot hty hm hv (pa_cons he.pe pa_nil hs) hbase hfew hline hs hplain) fun σ H r S s Qd Q g rp q k => by
    unfold dOwnM at q
    cases e1 : gd s i with
    | none => rw [e1] at q; exact q.elim
    | some d =>
      rw [e1] at q
      cases d with
      | own ds =>
        obtain ⟨l, ev, o⟩ := rp.own e1
        obtain ⟨vs, hl, hz, a⟩ := o.ex
        refine ⟨_, ev, .inl ⟨rfl, _, SqL.of hl⟩, LE.use g rp q fun v H' r' S' s' d e' g' rp' a' q' => ?_⟩
        cases e2 : gd s' i with
        | none => rw [e2] at q'; exact q'.elim
        | some d2 =>
          rw [e2] at q'
          cases d2 with
          | own ds2 =>
            obtain ⟨l2, ev2, o2⟩ := rp'.own e2
            rw [ev] at ev2
            cases ev2
            obtain ⟨vs2, hl2, hz2, a2⟩ := o2.ex
            refine md G r' S' H' l vs2 ds2 v d _ _ hl2 hz2 a2 a' q' fun y ws dy es hw aw ay qy => k _ _ ⟨r', S', _, dy, e', g'.writeOwn o2, rp'.write e2 ev o2 aw hw, ay, qy⟩
          | _ => exact q'.elim
      | _ => exact q.elim
def fAppend : List D → D → (D → List D → Prop) → Prop := fun ds d Q => ds.length < sizeLine ∧ Q .non (ds ++ [d])
theorem md_append : MutD rAppend fAppend := fun G r S H l vs ds v d Qf Q hl hz a ad q k => ⟨l, vs, v, rfl, rfl, hl, by rw [a.length]; exact q.1, k _ _ _ _ (by rw [List.length_append, a.length]; exact q.1) (a.append (.cons ad .nil)) .non q.2⟩
theorem pd_append {apos : Pos} (i : Nat) (hv : PE X (.Name x p) (tVar i)) (he : PD G F X e t)
    (hbase : attributeBase (.Name x p) "append" X.env (eval (.Name x p) X.env) = eval (.Name x p) X.env := by rfl)
    (hfew : ((backTo pos (starEach [e] X.env)).all (fun x => !x.1) && (backToKw pos (keywordEach [] X.env)).all (fun x => x.1.isSome)
      && decide ([e].length + ([] : List Keyword).length + (if ([] : List Keyword).isEmpty then 0 else 1) < 30)) = true := by rfl)
    (hline : (apos.endLine == pos.line) = true := by rfl) (hs : starEach [e] X.env = (false, eval e X.env) :: starEach [] X.env := by rfl) (hplain : (backTo pos (starEach [] X.env)).any (·.1) = false := by rfl) :
    PD G F X (.Call (.Attribute (.Name x p) "append" apos) [e] [] pos) (dOwnM i fAppend t) := pd_ownM i md_append PySem.F.slot_list_append PySem.F.type_list_append mt_append hv he hbase hfew hline hs hplain
def fPop : List D → D → (D → List D → Prop) → Prop := fun ds d Q => match d with
  | .int j => (-(2 ^ 63) ≤ j ∧ j < 2 ^ 63) ∧ (match seqIndex? j ds.length with | some m => (match ds[m]? with | some y => Q y (ds.eraseIdx m) | none => False) | none => False)
  | _ => False
theorem md_pop : MutD rPopAt fPop := fun G r S H l vs ds v d Qf Q hl hz a ad q k => by
  cases ad with
  | int j =>
    obtain ⟨⟨h1, h2⟩, q⟩ := q
    cases e1 : seqIndex? j ds.length with
    | none => rw [e1] at q; exact q.elim
    | some m =>
      rw [e1] at q
      cases e2 : ds[m]? with
      | none => simp only [e2] at q
      | some y =>
        simp only [e2] at q
        obtain ⟨w, hw, aw⟩ := a.get e2
        exact ⟨l, vs, j, m, w, rfl, rfl, hl, h1, h2, by rw [a.length]; exact e1, hw, k _ _ _ _ (Nat.le_trans (len_erase _ _) hz) (a.eraseIdx m) aw q⟩
  | _ => exact q.elim
theorem pd_popAt {apos : Pos} (i : Nat) (hv : PE X (.Name x p) (tVar i)) (he : PD G F X e t)
    (hbase : attributeBase (.Name x p) "pop" X.env (eval (.Name x p) X.env) = eval (.Name x p) X.env := by rfl)
    (hfew : ((backTo pos (starEach [e] X.env)).all (fun x => !x.1) && (backToKw pos (keywordEach [] X.env)).all (fun x => x.1.isSome)
      && decide ([e].length + ([] : List Keyword).length + (if ([] : List Keyword).isEmpty then 0 else 1) < 30)) = true := by rfl)
    (hline : (apos.endLine == pos.line) = true := by rfl) (hs : starEach [e] X.env = (false, eval e X.env) :: starEach [] X.env := by rfl) (hplain : (backTo pos (starEach [] X.env)).any (·.1) = false := by rfl) :
    PD G F X (.Call (.Attribute (.Name x p) "pop" apos) [e] [] pos) (dOwnM i fPop t) := pd_ownM i md_pop PySem.F.slot_list_pop PySem.F.type_list_pop mt_popAt hv he hbase hfew hline hs hplain
end
end DL

set_option Elab.async false
set_option linter.all false
set_option maxRecDepth 100000
set_option maxHeartbeats 4000000
/-! DL8: an own exception class whose __init__ says super().__init__(text) and keeps its arguments. -/
namespace DL
open PySem PySem.Spec L2

/-- the frame of a method that names super() -/
abbrev supEnv (qual : Str) (scope : Scope) (L a : Addr) (cd : Value) (cc : Addr) : Env := PySem.W.ksEnv qual scope L a cd cc
structure SupScope (N P : List Str) (sc : Scope) : Prop where
  kind : sc.kind = .function
  co : sc.isCoroutine = false
  gen : sc.isGenerator = false
  nd : N.Nodup
  pre : N.take P.length = P
  par : ∀ x ∈ P, sc.names.lookup x = some .local
  nocell : ∀ y ∈ sc.names, y.2 ≠ .cell
  free : ∀ y ∈ sc.names, y.2 = .free → y.1 = "__class__"
  sup : sc.names.lookup ("super" : Str) = some .globalImplicit
  cls : sc.names.lookup ("__class__" : Str) = some .free
/-- the context of such a body -/
def cxS (CX : CXT) (P : Program) (w : World) (K : PySem.W.Frag) (mg : Str → Option Value) (base : Heap) (N : List Str) (qual : Str) (scope : Scope) (f : Addr) (cd : Value) (cc : Addr) (A : Around) (outer : List Env) (s : Shared) (H : Hp) (E : XK) : Cx where
  prog := P
  w := w
  K := K
  mg := mg
  base := base
  A := A.deeper (supEnv qual scope s.heap.objs.size f cd cc)
  N := N
  s_0 := s
  H_0 := H
  env := supEnv qual scope s.heap.objs.size f cd cc
  outer := outer
  stack := supEnv qual scope s.heap.objs.size f cd cc :: outer
  ex := []
  calm := true
  fn := fun x => decide (x ≠ "__class__")
  pn := []
  xe := fun e s' => wpAny (model P w) (A.deeper (supEnv qual scope s.heap.objs.size f cd cc)) (leaving (supEnv qual scope s.heap.objs.size f cd cc) e) (fun _ s'' => CX outer H s E e s'') (fun e' s'' => CX outer H s E e' s'') s'
theorem lookup_rev {P : List Str} {us : List Value} {i : Nat} {x : Str} {u : Value} (nd : P.Nodup) (hl : us.length = P.length) (hp : P[i]? = some x) (hu : us[i]? = some u) : (P.zip us).reverse.lookup x = some u := by
  have key : ∀ (l : List (Str × Value)), (l.map (·.1)).Nodup → (x, u) ∈ l → l.lookup x = some u := by
    intro l
    induction l with
    | nil => intro _ h; cases h
    | cons p l ih =>
      intro hn hm
      obtain ⟨y, v⟩ := p
      rw [List.map_cons, List.nodup_cons] at hn
      rcases List.mem_cons.mp hm with e | hm
      · cases e; simp [List.lookup]
      · have ne : ¬ x = y := fun z => hn.1 (by rw [← z]; exact List.mem_map_of_mem (f := (·.1)) hm)
        have e2 : (x == y) = false := by simpa using ne
        simp [List.lookup, e2, ih hn.2 hm]
  refine key _ ?_ ?_
  · rw [List.map_reverse]
    refine List.pairwise_reverse.mpr (List.Pairwise.imp (fun h => Ne.symm h) ?_)
    have e : (P.zip us).map (·.1) = P := by
      rw [List.map_fst_zip]
      omega
    rw [e]; exact nd
  · rw [List.mem_reverse]
    obtain ⟨h1, e1⟩ := List.getElem?_eq_some_iff.mp hp
    obtain ⟨h2, e2⟩ := List.getElem?_eq_some_iff.mp hu
    have : (P.zip us)[i]? = some (x, u) := by
      rw [List.getElem?_zip_eq_some]
      exact ⟨hp, hu⟩
    exact List.mem_of_getElem? this
theorem inv_startS {CX : CXT} {P : Program} {w : World} {K : PySem.W.Frag} {mg : Str → Option Value} {base : Heap} {N ps : List Str} {qual : Str} {scope : Scope} {f cc : Addr} {cd : Value} {A : Around} {outer : List Env} {s : Shared} {H : Hp} {E : XK} {us : List Value} {vs : List V} {h0 : Heap} {tk : Nat}
    {cl : Value} {cld : Option Addr} {csl : Array (Option Value)} {D : Addr} (S : SupScope N ps scope) (hd : A.handled = none) (e0 : Env0 P w K mg base A outer s H) (hl : vs.length = ps.length) (r : Vals vs us) (hcell : K.lookup cc = some ⟨cl, cld, .cell (some (.ref D)), csl⟩)
    (hns : h0.Ns s.heap.objs.size (fun x => (ps.zip us).reverse.lookup x)) (hk : ∀ b o, s.heap.get? b = some o → h0.get? b = some o) :
    Inv (cxS CX P w K mg base N qual scope f cd cc A outer s H E) [] (L2.start N vs) H { s with heap := h0, toks := tk } := by
  have hpl : ps.length ≤ N.length := by have := congrArg List.length S.pre; rw [List.length_take] at this; omega
  have hcb := e0.mod.kin cc _ hcell
  have one : ∀ x c, (cxS CX P w K mg base N qual scope f cd cc A outer s H E).env.cells.lookup x = some c → x = "__class__" ∧ c = cc := fun x c h => by
    have h' : ([(("__class__" : Str), cc)] : List (Str × Addr)).lookup x = some c := h
    by_cases e : x = "__class__"
    · subst e
      have : ([(("__class__" : Str), cc)] : List (Str × Addr)).lookup ("__class__" : Str) = some cc := by simp [List.lookup]
      rw [this] at h'
      cases h'
      exact ⟨rfl, rfl⟩
    · have e2 : (x == ("__class__" : Str)) = false := by simpa using e
      simp [List.lookup, e2] at h'
  refine ⟨⟨e0.mod, S.kind, rfl, rfl, Nat.le_refl _, fun y z c h1 h2 => by rw [(one y c h1).1, (one z c h2).1], fun y hy => ?_, fun y c hf h => ?_, fun _ => hd, Around.frames_deeper e0.frames, .inr ⟨rfl, rfl⟩, fun b z => absurd z (by simp [cxS]), e0.bs, e0.bsz, fun b _ _ => by simp [cxS], fun b z => absurd z (by simp [cxS]), e0.funs, e0.frf⟩,
    rfl, e0.bare, Un.kept hk, ⟨_, hns, fun i y v h1 h2 h3 => ?_⟩, fun y c h => ?_, e0.hok.fresh (Nat.le_refl _), fun y c h => ?_, fun p hp => absurd (show p ∈ ([] : List (Addr × Obj)) from hp) (by simp), e0.hok.kept hk, ?_⟩
  · have hy' : scope.names.lookup y = some .cell ∨ scope.names.lookup y = some .free := hy
    rcases hy' with hy' | hy'
    · exact absurd rfl (S.nocell _ (PySem.mem_of_lookup hy'))
    · have e := S.free _ (PySem.mem_of_lookup hy') rfl
      have e' : y = "__class__" := e
      refine ⟨cc, ?_⟩
      subst e'
      show ([(("__class__" : Str), cc)] : List (Str × Addr)).lookup ("__class__" : Str) = some cc
      simp [List.lookup]
  · have hf' : decide (y ≠ "__class__") = true := hf
    exact absurd (one y c h).1 (of_decide_eq_true hf')
  · have hi : i < vs.length := by
      unfold L2.start at h2
      by_cases hi : i < vs.length
      · exact hi
      · rw [List.getElem?_append_right (by simpa using hi)] at h2
        rw [List.getElem?_replicate] at h2
        split at h2 <;> cases h2
    have ha : vs[i]? = some v := by
      unfold L2.start at h2
      rw [List.getElem?_append_left (by simpa using hi), List.getElem?_map] at h2
      cases e : vs[i]? with
      | none => rw [e] at h2; cases h2
      | some a => rw [e] at h2; cases h2; rfl
    obtain ⟨u, hu, rv⟩ := r.get ha
    have hp : ps[i]? = some y := by
      rw [← S.pre, List.getElem?_take_of_lt (by omega)]; exact h1
    have ndP : ps.Nodup := by rw [← S.pre]; exact S.nd.sublist (List.take_sublist _ _)
    exact ⟨u, rv, .inl ⟨S.par y (List.mem_of_getElem? hp), lookup_rev ndP (by rw [← r.length, hl]) hp hu⟩⟩
  · obtain ⟨_, rfl⟩ := one y c h
    exact ⟨_, _, hk _ _ (e0.bs _ _ hcb).1, rfl⟩
  · obtain ⟨_, rfl⟩ := one y c h
    exact (e0.bs _ _ hcb).2
  · unfold L2.start
    show _ = N.length
    rw [List.length_append, List.length_map, List.length_replicate]
    omega

open PySem.W PyProof.Rows in
/-- super().__init__(text) -/
theorem super_step {CX : CXT} {P : Program} {w : World} {K : PySem.W.Frag} {mg : Str → Option Value} {base : Heap} {N ps : List Str} {qual : Str} {args : Arguments} {body0 : List Stmt} {scope : Scope} {f : Addr} {fd : FuncData} {A : Around} {outer : List Env} {s s1 : Shared} {H : Hp} {E : XK} {σ : L2.St} {a C : Addr} {cda cc : Addr} {txt : Str} {kk : Nat} {p0 p1 p2 p3 p4 pc : Pos} {body : List Stmt}
    {kV dV doc pm : Value} {an : Option Addr} {ct oc : Value} {od : Option Addr} {osl : Array (Option Value)} {D : Addr} {cl : Value} {cld : Option Addr} {csl : Array (Option Value)} {ccl : Value} {cdd : Option Addr} {cvs : Array Value} {ccs : Array (Option Value)} {file : Str} {tf : Tok} {cdD cdC : PySem.ClassData} {ar : Arg} {Q : Flow → Shared → Prop}
    (S : SupScope N ps scope) (hf : K.lookup f = some ⟨oc, od, .func (PySem.W.ksFn "__init__" qual args body0 scope dV kV doc pm an (.ref cda) ct cc), osl⟩) (hcda : K.lookup cda = some ⟨ccl, cdd, .fields cvs, ccs⟩) (hvs : cvs[2]? = some (.str file tf)) (hfile : ((P.main.file : Str) == file) = true)
    (hcell : K.lookup cc = some ⟨cl, cld, .cell (some (.ref D)), csl⟩) (hD : PySem.W.clsIn K D = some cdD) (hC : PySem.W.clsIn K C = some cdC) (hmr : PySem.W.mroIn K C (.ref D) = some true) (hal : PySem.W.alongIn K "__init__" ((cdC.mro.dropWhile (· != .ref D)).drop 1) = some (some (.builtin "ValueError.__init__")))
    (hVE : PySem.W.subIn K (.ref C) (.type "ValueError") = some true) (htop : (P.main.scope.names.lookup ("super" : Str)).isSome = false) (hsup : PySem.W.nsIn K mainGlobals "super" = some none) (hopq : PySem.W.nsIn K cStatics "thirdparty.any" = some none)
    (har : (args.posonlyargs ++ args.args).head? = some ar) (hN0 : N[0]? = some ar.arg) (hl0 : scope.names.lookup ar.arg = some .local) (T : OexC K C)
    (I : Inv (cxS CX P w K mg base N qual scope f (.ref cda) cc A outer s H E) [] σ H s1) (hσ : σ[0]? = some (some (.ref a))) (ha : H a = some (exo a C none))
    {pl : Sem Bool} (he : eval (.Call (.Attribute (.Call (.Name "super" p0) [] [] p1) "__init__" p2) [.Constant (.str txt) kk pc] [] p3) (supEnv qual scope s.heap.objs.size f (.ref cda) cc) = (do
      let ov ← attributeBase (.Call (.Name "super" p0) [] [] p1) "__init__" (supEnv qual scope s.heap.objs.size f (.ref cda) cc) (eval (.Call (.Name "super" p0) [] [] p1) (supEnv qual scope s.heap.objs.size f (.ref cda) cc))
      standAt p2.atName
      let (gf, first) ← holding [ov] (getMethod ov "__init__" pl)
      callWith p3 gf first (backTo p3 (starEach [.Constant (.str txt) kk pc] (supEnv qual scope s.heap.objs.size f (.ref cda) cc))) []))
    (hq : ∀ s2, Inv (cxS CX P w K mg base N qual scope f (.ref cda) cc A outer s H E) [] σ H s2 → Q .next s2) :
    _root_.PySem.wpAt (model P w) (A.deeper (supEnv qual scope s.heap.objs.size f (.ref cda) cc)) (.func body (supEnv qual scope s.heap.objs.size f (.ref cda) cc)) (exec (.Expr (.Call (.Attribute (.Call (.Name "super" p0) [] [] p1) "__init__" p2) [.Constant (.str txt) kk pc] [] p3) p4) (supEnv qual scope s.heap.objs.size f (.ref cda) cc)) Q (cxS CX P w K mg base N qual scope f (.ref cda) cc A outer s H E).xe s1 := by
  have KX : K.In s1.heap := I.kIn
  obtain ⟨t1, hx⟩ := exo_at I.hok ha
  have hCo : ∃ oC, s1.heap.get? C = some oC ∧ oC.data = .cls cdC := by
    unfold clsIn at hC
    split at hC
    · rename_i c d cd' sl ho
      cases hC
      exact ⟨_, KX _ _ ho, rfl⟩
    · cases hC
  have hDo : ∃ oD, s1.heap.get? D = some oD ∧ oD.data = .cls cdD := by
    unfold clsIn at hD
    split at hD
    · rename_i c d cd' sl ho
      cases hD
      exact ⟨_, KX _ _ ho, rfl⟩
    · cases hD
  obtain ⟨oD, hD1, hD2⟩ := hDo
  obtain ⟨oC, hC1, hC2⟩ := hCo
  have hxC : a ≠ C := fun z => by
    rw [z, hC1] at hx
    cases hx
    cases hC2
  obtain ⟨m, hn, hl⟩ := id I.loc
  obtain ⟨u0, ru0, lk0⟩ := hl 0 ar.arg (.ref a) hN0 hσ (.inl hl0)
  have hu0 : m ar.arg = some (.ref a) := by
    rcases lk0 with ⟨_, h⟩ | ⟨h, _⟩
    · cases ru0; exact h
    · have h' : scope.names.lookup ar.arg = some .cell ∨ scope.names.lookup ar.arg = some .free := h
      rw [hl0] at h'
      rcases h' with h' | h' <;> cases h'
  obtain ⟨mb, hb1, hb2⟩ := I.mod.blt
  refine ks_wpAt_Expr_any (ks_wpAt_MethodCall (pl := pl) ?_ he) (by simp [interactive, Env.blockKind, S.kind]) 
  refine ks_wpAt_super_base (env := supEnv qual scope s.heap.objs.size f (.ref cda) cc) S.sup S.cls (by decide) rfl (KX _ _ hf) rfl har rfl (KX _ _ hcda) rfl hvs hfile htop ?_
  refine ks_loadName_global S.kind S.sup (Calls.loadGlobal_builtin (env := supEnv qual scope s.heap.objs.size f (.ref cda) cc) (I.mod.glob.keeps I.bk) (mg_none_of I.mod.kin I.mod.glob hsup) (hb1.keeps I.bk) ((hb2 _ (by decide)).trans (by decide +kernel)) ⟨rfl, ?_⟩)
  refine wpAny_loadName_free S.kind S.cls rfl ⟨_, KX _ _ hcell, rfl⟩ ?_
  refine wpAny_loadName_local S.kind hl0 hn hu0 ?_
  refine ks_wpAny_isType_cls hD1 hD2 ⟨rfl, ?_⟩
  refine ks_wpAny_call_super hD1 hD2 hx rfl (fun c z => by cases z) (looks_mroIn KX hmr) (fun h' e k => ?_)
  obtain ⟨hh, g, dr, tk, os⟩ := s1
  have KX2 : K.In h' := KX.keeps k
  have hx2 := k _ _ hx
  have JI : PySem.W.InstAt h' a _ C none := ⟨hx2, rfl, rfl, trivial⟩
  refine kxs_getMethod kxs_ValueError e (looks_opaque KX2 hopq) (l₀ := cdC.mro) (fun A Q E s k q => wpAny_bind ((looks_clsIn KX2 hC) A _ E s k (wpAny_pure q))) rfl KX2 hal (JI.type.andThen (looks_subIn KX2 hVE)) hxC (by decide) ?_
  -- the wrapper is called
  have hu : (h'.push (kxs_mw "ValueError.__init__" a)).get? h'.objs.size = some (kxs_mw "ValueError.__init__" a) := Heap.get?_push_size _ rfl
  show wpAny _ _ (callWith p3 (.ref h'.objs.size) [] (backTo p3 (starEach [.Constant (.str txt) kk pc] (supEnv qual scope s.heap.objs.size f (.ref cda) cc))) []) _ _ _
  have hst : starEach [.Constant (.str txt) kk pc] (supEnv qual scope s.heap.objs.size f (.ref cda) cc) = (false, eval (.Constant (.str txt) kk pc) (supEnv qual scope s.heap.objs.size f (.ref cda) cc)) :: starEach [] (supEnv qual scope s.heap.objs.size f (.ref cda) cc) := rfl
  rw [hst]
  refine kxs_callWith (i := "ValueError.__init__") (x := a) rfl ?_
  refine Calls.evalArgs_plain ?_
  refine Calls.spliced_cons ?_
  refine Calls.Constant_str (k := kk) (pos := pc) ?_
  refine Calls.spliced_nil ⟨hu, ?_⟩
  -- ValueError.__init__(a, text)
  obtain ⟨nm, qn, NN, bs, bm, sn, sub, ab, col, dd, k0, k1, k2, k3, k5, hCo, hbm⟩ := T.cls
  have KX3 : K.In (h'.push (kxs_mw "ValueError.__init__" a)) := KX2.keeps fun b o q => Heap.get?_push_of_some _ q
  have hC3 := KX3 _ _ hCo
  have hx3 : (h'.push (kxs_mw "ValueError.__init__" a)).get? a = some (excRec (.ref C) t1 none .none .none (.bool false)) := Heap.get?_push_of_some _ hx2
  have fin : ∀ h4, (∀ b o, b ≠ a → (h'.push (kxs_mw "ValueError.__init__" a)).get? b = some o → h4.get? b = some o) → h4.get? a = some (excRec (.ref C) (h'.push (kxs_mw "ValueError.__init__" a)).objs.size none .none .none (.bool false)) →
      ∀ tk', Q .next ⟨h4, g, dr, tk', os⟩ := fun h4 k4 e4 tk' => by
    have I1 : Inv (cxS CX P w K mg base N qual scope f (.ref cda) cc A outer s H E) [] σ H ⟨h'.push (kxs_mw "ValueError.__init__" a), g, dr, tk', os⟩ := I.kept (t' := tk') fun b o q => Heap.get?_push_of_some _ (k b o q)
    have J := I1.write (t' := tk') (x := a) (e := a) (o := exo a C none) (by rw [ha]; exact True.intro) (.inl rfl) k4 ⟨_, e4⟩ (exo_ok e4)
    have eu : upd H a (exo a C none) = H := by
      funext b
      by_cases hb : b = a
      · rw [hb, upd_same, ha]
      · rw [upd_ne hb]
    rw [eu] at J
    exact hq _ J
  refine wpAny_call (codeAny_of_tree ?_)
  show wpAny _ (A.deeper (supEnv qual scope s.heap.objs.size f (.ref cda) cc)).in1 (callAny (.ref h'.objs.size) ⟨[.str txt _], []⟩) _ _ _
  simp only [callAny]
  refine wpAny_bind (wpAny_load hu ?_)
  simp only [kxs_mw, show (Value.type "method-wrapper" == Value.type "method" || Value.type "method-wrapper" == Value.type "builtin_function_or_method" || Value.type "method-wrapper" == Value.type "method-wrapper") = true by decide, if_true]
  refine KFB.if_so (by decide) ?_
  refine wpAny_bind (check_bound_init PySem.F.excBase_ValueError.toExcCallFacts hC3 hx3 rfl ?_)
  refine wpAny_bind (wpAny_pure (wpAny_pure ?_))
  refine ⟨plainId_quiet PySem.F.excBase_ValueError.init.plain _, codeAny_builtin PySem.F.excBase_ValueError.initEntry ?_⟩
  exact exc_init_tree (cls := .ref C) (t0 := t1) (dv := none) (c2 := .none) (c3 := .none) (b4 := .bool false) hx3 (by show 1 ≤ sizeLine; decide) fun h4 k4 e4 _ => fin h4 k4 e4 _

/-- the facts of the class at C, its __init__ at f, its attributes fl in the order of their stores -/
structure SupC (P : Program) (K : PySem.W.Frag) (qual : Str) (args : Arguments) (body : List Stmt) (scope : Scope) (C f : Addr) (fl : List Str) : Prop where
  fn : ∃ (kV doc pm : Value) (an : Option Addr) (cda : Addr) (ct oc : Value) (od : Option Addr) (osl : Array (Option Value)) (cc : Addr) (cl : Value) (cld : Option Addr) (csl : Array (Option Value)) (ccl : Value) (cdd : Option Addr) (cvs : Array Value) (ccs : Array (Option Value)) (file : Str) (tf : Tok),
    K.lookup f = some ⟨oc, od, .func (PySem.W.ksFn "__init__" qual args body scope .none kV doc pm an (.ref cda) ct cc), osl⟩ ∧ PySem.W.codeIn K (.ref cda) qual = true ∧ K.lookup cda = some ⟨ccl, cdd, .fields cvs, ccs⟩ ∧ cvs[2]? = some (.str file tf) ∧ ((P.main.file : Str) == file) = true ∧
    K.lookup cc = some ⟨cl, cld, .cell (some (.ref C)), csl⟩
  al : ∃ cdC, PySem.W.clsIn K C = some cdC ∧ PySem.W.alongIn K "__init__" ((cdC.mro.dropWhile (· != .ref C)).drop 1) = some (some (.builtin "ValueError.__init__"))
  mr : PySem.W.mroIn K C (.ref C) = some true
  ve : PySem.W.subIn K (.ref C) (.type "ValueError") = some true
  top : (P.main.scope.names.lookup ("super" : Str)).isSome = false
  sup : PySem.W.nsIn K mainGlobals "super" = some none
  opq : PySem.W.nsIn K cStatics "thirdparty.any" = some none
  ox : OexC K C
  ini : PySem.W.findIn K (.ref C) "__init__" = some (some (.ref f))
  tyf : PySem.W.typeIn K (.ref f) = some (.type "function")
  no : ∀ x ∈ fl, PySem.W.findIn K (.ref C) x = some none
/-- its promise -/
def spSup (C : Addr) (fl : List Str) : Sp := fun vs H Q _ => ∃ a us, vs = .ref a :: us ∧ us.length = fl.length ∧ H a = some (exo a C none) ∧ ∀ d H', H d = none → d ≠ a → H' a = some (exo a C (some d)) → H' d = some (exd d (fl.zip us).reverse) → (∀ b o, H b = some o → b ≠ a → H' b = some o) → Q .non H'
/-- THE RULE for such an __init__: the statements behind the first one are derived by the hand layer -/
theorem fn_super {P : Program} {w : World} {K : PySem.W.Frag} {mg : Str → Option Value} {base : Heap} {N ps : List Str} {qual : Str} {args : Arguments} {scope : Scope} {C f : Addr} {fl : List Str} {k : Nat} {txt : Str} {kk : Nat} {p0 p1 p2 p3 p4 pc : Pos} {rest : List Stmt} {ar : Arg}
    (T : SupC P K qual args (.Expr (.Call (.Attribute (.Call (.Name "super" p0) [] [] p1) "__init__" p2) [.Constant (.str txt) kk pc] [] p3) p4 :: rest) scope C f fl) (S : SupScope N ps scope)
    (hb : ∀ (kV doc pm : Value) (an : Option Addr) (cdv ct : Value) (cc : Addr) (us : List Value), us.length = ps.length → bindArgs (PySem.W.ksFn "__init__" qual args (.Expr (.Call (.Attribute (.Call (.Name "super" p0) [] [] p1) "__init__" p2) [.Constant (.str txt) kk pc] [] p3) p4 :: rest) scope .none kV doc pm an cdv ct cc) ⟨us, []⟩ = pure (ps.zip us))
    (hps : ps.length = fl.length + 1) (har : (args.posonlyargs ++ args.args).head? = some ar) (hN0 : N[0]? = some ar.arg) (hl0 : scope.names.lookup ar.arg = some .local)
    (he : ∀ L cda cc, ∃ pl : Sem Bool, eval (.Call (.Attribute (.Call (.Name "super" p0) [] [] p1) "__init__" p2) [.Constant (.str txt) kk pc] [] p3) (supEnv qual scope L f (.ref cda) cc) = (do
      let ov ← attributeBase (.Call (.Name "super" p0) [] [] p1) "__init__" (supEnv qual scope L f (.ref cda) cc) (eval (.Call (.Name "super" p0) [] [] p1) (supEnv qual scope L f (.ref cda) cc))
      standAt p2.atName
      let (gf, first) ← holding [ov] (getMethod ov "__init__" pl)
      callWith p3 gf first (backTo p3 (starEach [.Constant (.str txt) kk pc] (supEnv qual scope L f (.ref cda) cc))) []))
    (hbody : ∀ (cda cc : Addr) (A : Around) (outer : List Env) (s : Shared) (H : Hp) (E : XK) (a : Addr) (us : List V) (Dn : Ends), us.length = fl.length → H a = some (exo a C none) →
      (∀ d σ' H', H d = none → d ≠ a → H' a = some (exo a C (some d)) → H' d = some (exd d (fl.zip us).reverse) → (∀ b o, H b = some o → b ≠ a → H' b = some o) → Dn.nx σ' H') →
      ∃ t, PSs (cxS (L2.CX P w) P w K mg base N qual scope f (.ref cda) cc A outer s H E) rest t ∧ t Dn (L2.start N (.ref a :: us)) H) :
    ∃ fd, FnOk P w K mg base (L2.CX P w) (k + 1) f fd ps (spSup C fl) ∧ Binds K fd ps [] := by
  obtain ⟨kV, doc, pm, an, cda, ct, oc, od, osl, cc, cl, cld, csl, ccl, cdd, cvs, ccs, file, tf, hf, hcd, hcda, hvs, hfile, hcell⟩ := T.fn
  obtain ⟨cdC, hC, hal⟩ := T.al
  refine ⟨_, ⟨fun vs H Q E ⟨a, us, e, hl, _⟩ => by rw [e, hps, List.length_cons, hl], fun A outer s H args' us vs Q E hr e0 hbd r hsp => ?_⟩, .all (hb kV doc pm an (.ref cda) ct cc)⟩
  have hl : vs.length = ps.length := by
    obtain ⟨a, us', e, hl, _⟩ := hsp
    rw [e, hps, List.length_cons, hl]
  obtain ⟨a, us', e, hlen, ha, hq⟩ := hsp
  subst e
  have KX : K.In s.heap := e0.mod.kin.keeps fun b o e => (e0.bs b o e).1
  have lim : s.heap.NoLimit := e0.mod.nolimit.keeps fun b o e => (e0.bs b o e).1
  have hloc : ∀ y ∈ ps.zip us, scope.names.lookup y.1 = some .local := fun ⟨n, v⟩ hy => S.par n (List.of_mem_zip hy).1
  refine ks_codeAny_call_defAt (fd := PySem.W.ksFn "__init__" qual args _ scope .none kV doc pm an (.ref cda) ct cc) (binds := ps.zip us) hr.depth (KX _ _ hf) rfl lim (PySem.W.codeRec_of KX hcd) rfl hbd S.nocell hloc (fun h0 hns hk => ?_) S.co S.gen S.kind
  have I0 : Inv (cxS (L2.CX P w) P w K mg base N qual scope f (.ref cda) cc A outer s H E) [] (L2.start N (.ref a :: us')) H { s with heap := h0, toks := s.toks + (ps.zip us).length } := inv_startS S hr.hd e0 hl r hcell hns hk
  obtain ⟨pl, he'⟩ := he s.heap.objs.size cda cc
  have hσ : (L2.start N (.ref a :: us'))[0]? = some (some (.ref a)) := rfl
  obtain ⟨t, ht, hq'⟩ := hbody cda cc A outer s H E a us' { nx := fun _ H' => Q .non H', rt := Q } hlen ha (fun d σ' H' h1 h2 h3 h4 h5 => hq d H' h1 h2 h3 h4 h5)
  refine ks_wpAt_execs_cons (super_step (fd := PySem.W.ksFn "__init__" qual args [] scope .none kV doc pm an (.ref cda) ct cc) S hf hcda hvs hfile hcell hC hC T.mr hal T.ve T.top T.sup T.opq har hN0 hl0 T.ox I0 hσ ha he' fun s2 I2 => ?_)
  show _root_.PySem.wpAt _ _ _ (execs rest _) _ _ s2
  refine wpAt_of_wpAny (wpAny_mono (ht.run [] s2 _ H _ I2 hq') (fun fl s' hs => ?_) fun e s' hs => hs)
  have fin : ∀ {σ' : L2.St} {H' : Hp} {v : V} {u : Value}, Inv (cxS (L2.CX P w) P w K mg base N qual scope f (.ref cda) cc A outer s H E) [] σ' H' s' → RelV v u → Q v H' → CE outer P w H s Q u s' :=
    fun {σ' H' v u} J rv q => ⟨v, H', J.os, J.bare, J.base, J.hok, rv, q⟩
  cases fl with
  | ret u =>
    obtain ⟨v, σ', H', J, rv, q⟩ := hs
    exact fin J rv q
  | next =>
    obtain ⟨σ', H', J, q⟩ := hs
    exact fin (v := V.non) (u := Value.none) J rfl q
  | brk =>
    obtain ⟨_, _, _, q⟩ := hs
    exact False.elim q
  | cont =>
    obtain ⟨_, _, _, q⟩ := hs
    exact False.elim q
/-- one attribute, two attributes: the readings -/
theorem ost_one {K : PySem.W.Frag} {f1 : Str} {H : Hp} {a C : Addr} {y1 : V} {σ : L2.St} {t1 tself : TE} {Dn : Ends} (T : OexC K C) (n1 : PySem.W.findIn K (.ref C) f1 = some none) (ha : H a = some (exo a C none))
    (h1 : ∀ H Q, Q y1 H → t1 σ H Q) (hs : ∀ H Q, Q (.ref a) H → tself σ H Q)
    (k : ∀ d H', H d = none → d ≠ a → H' a = some (exo a C (some d)) → H' d = some (exd d [(f1, y1)]) → (∀ b o, H b = some o → b ≠ a → H' b = some o) → Dn.nx σ H') : tOst K f1 tself t1 Dn σ H := by
  refine h1 _ _ (hs _ _ ⟨a, C, rfl, T, n1, .inl ⟨ha, fun d hd hne => k d _ hd hne upd_same (by rw [upd_ne hne, upd_same]) fun b o e hb => ?_⟩⟩)
  rw [upd_ne hb, upd_ne (ne_of_none e hd)]; exact e
theorem ost_two {K : PySem.W.Frag} {f1 f2 : Str} {H : Hp} {a C : Addr} {y1 y2 : V} {σ : L2.St} {t1 t2 tself tself2 : TE} {Dn : Ends} (T : OexC K C) (n1 : PySem.W.findIn K (.ref C) f1 = some none) (n2 : PySem.W.findIn K (.ref C) f2 = some none) (ha : H a = some (exo a C none))
    (h1 : ∀ H Q, Q y1 H → t1 σ H Q) (h2 : ∀ H Q, Q y2 H → t2 σ H Q) (hs : ∀ H Q, Q (.ref a) H → tself σ H Q) (hs2 : ∀ H Q, Q (.ref a) H → tself2 σ H Q)
    (k : ∀ d H', H d = none → d ≠ a → H' a = some (exo a C (some d)) → H' d = some (exd d [(f2, y2), (f1, y1)]) → (∀ b o, H b = some o → b ≠ a → H' b = some o) → Dn.nx σ H') : tSeq (tOst K f1 tself t1) (tOst K f2 tself2 t2) Dn σ H := by
  refine ost_one (K := K) (Dn := { Dn with nx := tOst K f2 tself2 t2 Dn }) T n1 ha h1 hs fun d H' hd hne e1 e2 kp => ?_
  refine h2 _ _ (hs2 _ _ ⟨a, C, rfl, T, n2, .inr ⟨d, _, e1, e2, by simp, k d _ hd hne (by rw [upd_ne (Ne.symm hne)]; exact e1) upd_same fun b o e hb => ?_⟩⟩)
  rw [upd_ne (ne_of_none e hd)]; exact kp b o e hb

/-! ### raise C(..) -/
/-- what the raise of an own class by its name wants -/
structure XMk (P : Program) (w : World) (K : PySem.W.Frag) (mg : Str → Option Value) (base : Heap) (cls : Str → Option Addr) (flds : Str → List Str) (x : Str) (fl : List Str) : Prop where
  ex : ∃ (C f : Addr) (fd : FuncData) (k : Nat) (ps : List Str), mg x = some (.ref C) ∧ cls x = some C ∧ flds x = fl.reverse ∧ k ≤ 1 ∧ OexC K C ∧ PySem.W.findIn K (.ref C) "__init__" = some (some (.ref f)) ∧ PySem.W.typeIn K (.ref f) = some (.type "function") ∧
    FnOk P w K mg base (L2.CX P w) k f fd ps (spSup C fl) ∧ Binds K fd ps []
section
variable {cls : Str → Option Addr} {flds : Str → List Str} {F : Frm} {X : Cx} {e : Expr} {es : List Expr} {pos p pos' : Pos} {x : Str} {Xc : XcD} {ta : TAd} {fl : List Str}
def dRaise (Xc : XcD) (x : Str) (n : Nat) (ta : TAd) : TSd := fun _ s => ta s fun ds s1 => ds.length = n ∧ Xc x ds.reverse s1
theorem zip_rev {α β : Type} : ∀ {xs : List α} {ys : List β}, xs.length = ys.length → (xs.zip ys).reverse = xs.reverse.zip ys.reverse
  | [], [], _ => rfl
  | [], _ :: _, h => by simp at h
  | _ :: _, [], h => by simp at h
  | x :: xs, y :: ys, h => by
    have hl : xs.length = ys.length := by simpa using h
    show ((x, y) :: xs.zip ys).reverse = _
    rw [List.reverse_cons, zip_rev hl, List.reverse_cons, List.reverse_cons, List.zip_append (by simp [hl])]
    rfl
theorem pds_raise {G : Cw} {n : Nat} (M : XMk X.prog X.w X.K X.mg X.base cls flds x fl) (hn : fl.length = n) (hn2 : n ≤ 1000) (hc : X.calm = true) (hr : Room 2 X.A) (hg : Gl X x) (tk : Takes X (LW G F Xc)) (ha : PDA G F X (e :: es) ta) (hG : G = ⟨X.K, cls, flds⟩ := by rfl)
    (hdb : (x == ("__debug__" : Str)) = false := by decide) (he : starEach (e :: es) X.env = (false, eval e X.env) :: starEach es X.env := by rfl) (hpl : (backTo pos (starEach es X.env)).any (·.1) = false := by rfl) :
    PDS G F X (.Raise (some (.Call (.Name x p) (e :: es) [] pos)) none pos') (dRaise Xc x n ta) := by
  subst hG
  obtain ⟨C, f, fd, k, ps, hm, hcl, hfl, hk1, T, hi, hty, Fk, hb⟩ := M.ex
  refine PDS.ofQ (ps_raise hc tk (pmk_oex T hi hty Fk (hr.mono (by omega)) hb (dvs := []) .nil (passL (X := X)) hg hm ha.pa hdb he hpl)) fun E σ H r S s Ed g rp q kk => LA.use g rp q fun vs H1 r1 S1 s1 ds e1 g1 rp1 a1 q1 => ?_
  obtain ⟨hl, q1⟩ := q1
  refine ⟨by rw [a1.length, hl]; exact hn2, fun a na => ?_⟩
  refine ⟨a, vs, by rw [List.append_nil], by rw [a1.length, hl, hn], upd_same, fun d H' hd hne ea ed kp => ⟨rfl, d, _, ea, ed, ?_, ?_⟩⟩
  · rw [upd_ne hne] at hd; exact hd
  have hd1 : H1 d = none := by rw [upd_ne hne] at hd; exact hd
  have gr : Gro S1 H1 (upd S1 d (.xd (fl.zip vs).reverse)) (upd (del H' a) d (.xd (fl.zip vs).reverse)) := by
    have hh : ∀ b o, H1 b = some o → upd (del H' a) d (.xd (fl.zip vs).reverse) b = some o := fun b o eb => by
      have nb : b ≠ a := ne_of_none eb na
      rw [upd_ne (ne_of_none eb hd1), del_ne nb]
      exact kp b o (by rw [upd_ne nb]; exact eb) nb
    refine ⟨hh, fun b o eb => ?_, fun b hb => upd_ne fun z => hb (by rw [z]; exact hd1), fun b o eb => ?_⟩
    · rw [upd_ne (ne_of_none (g1.sub _ _ eb) hd1)]; exact eb
    · by_cases z : b = d
      · subst z; rw [upd_same] at eb ⊢; exact eb
      · rw [upd_ne z] at eb
        exact hh b o (g1.sub b o eb)
  have hlen : fl.length = vs.length := by rw [a1.length, hl, hn]
  refine ⟨r1, _, s1, x, C, d, vs.reverse, ds.reverse, rfl, rfl, hcl, g1.gro gr, rp1.gro gr, ?_, ?_, (a1.mono gr.s (.refl _)).reverse, q1⟩
  · show upd S1 d (.xd (fl.zip vs).reverse) d = some (.xd ((flds x).zip vs.reverse))
    rw [upd_same, hfl, zip_rev hlen]
  · show (flds x).length = vs.reverse.length
    rw [hfl, List.length_reverse, List.length_reverse, hlen]
end
end DL

set_option Elab.async false
set_option linter.all false
set_option maxRecDepth 100000
set_option maxHeartbeats 4000000
/-! DL9: try with several clauses, each with a name or without; a caught error's attributes, isinstance of it. -/
namespace PySem.W
open PySem PySem.Spec PySem.Calls PyProof.Rows
section
variable {prog : Program} {w : World} {A : Around} {E : Value → Shared → Prop} {s : Shared} {K : Frag} {x D : Addr} {ox : Obj} {od : Option Obj}
theorem dl_findObj {C : Addr} {name : Str} {a g : Value} (hc : (clsIn K C).isSome = true) (ha : findIn K (.ref C) name = some (some a)) (hg : specialIn K a "__get__" = some (some g)) (ht : takesIn K a = some true) : findObj K C od name = some (.bind g a) := by
  obtain ⟨cd, hc⟩ := Option.isSome_iff_exists.mp hc
  unfold findObj
  rw [hc, Option.bind_some, ha, Option.bind_some]
  simp [hg, ht]
/-- the class of an own error that has its attributes -/
theorem dl_classE {Q : Option Value → Shared → Prop} (hga : findIn K (.ref D) "__getattribute__" = some (some (.builtin "BaseException.__getattribute__"))) (hgt : findIn K (.ref D) "__getattr__" = some none) (hsub : subIn K (.ref D) (.type "BaseException") = some true)
    (hdct : hasDictIn K D = true) (ha : findIn K (.ref D) "__class__" = some (some (.builtin "object.__class__")))
    (hn : specialIn K (.builtin "object.__class__") "__get__" = some (some (.builtin "getset_descriptor.__get__"))) (htk : takesIn K (.builtin "object.__class__") = some true) (hm : mroIn K D (.type "object") = some true)
    (X : K.In s.heap) (I : InstAt s.heap x ox D od) (h : Q (some (.ref D)) { s with toks := s.toks + 1 }) : wpAny (model prog w) A (getAttr? (.ref x) "__class__") Q E s := by
  have hf : findObj K D od "__class__" = some (.bind (.builtin "getset_descriptor.__get__") (.builtin "object.__class__")) := dl_findObj (by obtain ⟨cd, hc, _⟩ := any_some hdct; rw [hc]; rfl) ha hn htk
  obtain ⟨hp, g, d, t, os⟩ := s
  have L0 := I.type (M := model prog w)
  have L1 := looks_findIn (M := model prog w) X hga
  have L2 := looks_findIn (M := model prog w) X hgt
  have L3 := looks_find (M := model prog w) X I hf
  have sub : Looks (model prog w) hp (isInstance (.ref x) (.type "BaseException")) true := L0.andThen (looks_subIn X hsub)
  have hx0 : (false && onTheHeap (Value.builtin "BaseException.__getattribute__")) = false := rfl
  have hx2 : (Value.builtin "BaseException.__getattribute__" == Value.builtin "object.__getattribute__") = false := by decide +kernel
  have hx1 : (onTheHeap (Value.ref D) && Value.builtin "BaseException.__getattribute__" == Value.builtin "object.__getattribute__") = false := by rw [hx2]; rfl
  unfold getAttr? getAttrBy? getAttrBy
  refine wpAny_bind (wpAny_mkText (wpAny_bind (wpAny_attempt (wpAny_holding (wpAny_bind (L0.at (wpAny_bind (L1.at ?_))))))))
  show wpAny _ _ (if (onTheHeap (Value.ref D) && Value.builtin "BaseException.__getattribute__" == Value.builtin "object.__getattribute__") = true then _ else _) _ _ _
  rw [hx1, if_neg Bool.false_ne_true]
  unfold getAttrByItsOwn hookBefore
  refine wpAny_bind ?_
  rw [if_pos (show onTheHeap (Value.ref D) = true from rfl)]
  refine L2.at ?_
  refine wpAny_bind (wpAny_attempt (wpAny_holding ?_))
  unfold callGetattribute
  rw [hx0, if_neg Bool.false_ne_true]
  unfold boundAndCalled
  rw [PySem.F.excAttr_ValueError.ga.bind (.ref x)]
  refine wpAny_bind (wpAny_pure ?_)
  show wpAny _ _ (call (.builtin "BaseException.__getattribute__") [.ref x, .str "__class__" t]) _ _ _
  refine wpAny_call (codeAny_call_builtin PySem.F.excAttr_ValueError.ga.plain PySem.F.entry_bexc_ga ?_)
  refine @check_slot (model prog w) _ _ ⟨hp, g, d, t + 1, os⟩ "BaseException.__getattribute__" "BaseException" "__getattribute__" (.ref x) [.str "__class__" t] [] _ (by decide +kernel) (by decide +kernel) sub (PySem.F.args_bexc_ga (.ref x) (.str "__class__" t)) ?_
  unfold Builtin.«object.__getattribute__»
  refine wpAny_bind (wpAny_of_eq (a := ((Value.ref x : Value), [Value.str "__class__" t])) (by first | rfl | (simp only [slotArgs]; rfl)) ?_)
  refine wpAny_bind (wpAny_pure (wpAny_bind (L0.at (wpAny_bind (L3.at ?_)))))
  show wpAny _ _ (holding [Value.builtin "object.__class__"] (call (.builtin "getset_descriptor.__get__") [.builtin "object.__class__", .ref x, .ref D]) >>= ret) _ _ _
  refine wpAny_bind (wpAny_holding (wpAny_call (class_get (s := ⟨hp, g, d, t + 1, os⟩) (ox := ox) (od := od) X I hm ?_)))
  refine wpAny_pure ?_
  show wpAny _ _ (handedOut (.ref D)) _ _ _
  rw [handedOut_of (v := .ref D) rfl]
  first
    | exact wpAny_pure (wpAny_pure h)
    | exact wpAny_pure h
    | exact wpAny_pure (wpAny_bind (wpAny_pure (wpAny_pure h)))
theorem dl_kitx (hga : findIn K (.ref D) "__getattribute__" = some (some (.builtin "BaseException.__getattribute__"))) (hgt : findIn K (.ref D) "__getattr__" = some none) (hsub : subIn K (.ref D) (.type "BaseException") = some true) (hdct : hasDictIn K D = true) (ha : findIn K (.ref D) "__class__" = some (some (.builtin "object.__class__")))
    (hn : specialIn K (.builtin "object.__class__") "__get__" = some (some (.builtin "getset_descriptor.__get__"))) (htk : takesIn K (.builtin "object.__class__") = some true) (hm : mroIn K D (.type "object") = some true) :
    KitX K (.ref x) (.ref D) (fun h => InstAt h x ox D od) where
  ty := fun _ _ _ I => I.type
  it := fun _ _ X _ => by
    obtain ⟨cdD, hcD, _⟩ := any_some hdct
    unfold clsIn at hcD
    split at hcD
    · rename_i c' d' cd' sl' ho
      intro A' Q' E' s' k q
      unfold isType loadHead
      exact wpAny_bind (wpAny_loadPart (k _ _ (X _ _ ho)) (wpAny_pure q))
    · cases hcD
  ne := fun h tp dd its n sl X htp => by
    obtain ⟨cdD, hcD, _⟩ := any_some hdct
    refine Bool.eq_false_iff.mpr fun q => ?_
    have e : D = tp := Value.ref.inj (beq_iff_eq.mp q)
    subst e
    unfold clsIn at hcD
    split at hcD
    · rename_i c' d' cd' sl' ho
      have z := (X _ _ ho).symm.trans htp
      cases z
    · cases hcD
  ca := fun X I k => dl_classE hga hgt hsub hdct ha hn htk hm X I k
end
end PySem.W
namespace DL
open PySem PySem.Spec PyProof.Rows L2
/-- a clause: its class, the slot of its name, what its suite asks -/
structure Cl where
  c : Value
  i : Option Nat
  ts : Addr → Value → Option Addr → TS
def goneE (D : Ends) (i : Nat) : Ends := { nx := fun σ' H' => D.nx (σ'.set i none) H', rt := D.rt, bk := fun σ' H' => D.bk (σ'.set i none) H', ct := fun σ' H' => D.ct (σ'.set i none) H' }
def clAsk (q : Cl) (a : Addr) (cls : Value) (d : Option Addr) (D : Ends) (σ : L2.St) (H : Hp) : Prop := match q.i with
  | some i => q.ts a cls d (goneE D i) (σ.set i (some (.ref a))) H
  | none => q.ts a cls d D σ H
def wCls (K : PySem.W.Frag) (Wout : WX) (D : Ends) : List Cl → WX
  | [] => Wout
  | q :: r => fun cls d σ H => ∃ b, PySem.W.exmOne K cls q.c = some b ∧ (b = true → ∀ a, H a = none → clAsk q a cls d D σ H) ∧ (b = false → wCls K Wout D r cls d σ H)
inductive ClsOk (X : Cx) : List ExceptHandler → List Cl → Prop
  | nil : ClsOk X [] []
  | bare {x : Str} {c : Value} {ts : Addr → Value → Option Addr → TS} {b₀ : Stmt} {suite : List Stmt} {np pos' : Pos} {hds : List ExceptHandler} {l : List Cl} (hc : Names X x c)
      (hsu : ∀ (a : Addr) (oe : Obj) (cls : Value) (d : Option Addr) (pn : List (Addr × Obj)), Zc cls d oe → (∃ vs, oe.data = .fields vs) → PSs (X.suite a ((a, oe) :: pn)) (b₀ :: suite) (ts a cls d)) (r : ClsOk X hds l) :
      ClsOk X (.ExceptHandler (some (.Name x np)) none (b₀ :: suite) pos' :: hds) (⟨c, none, ts⟩ :: l)
  | named {x n : Str} {i : Nat} {c : Value} {ts : Addr → Value → Option Addr → TS} {b₀ : Stmt} {suite : List Stmt} {np pos' : Pos} {hds : List ExceptHandler} {l : List Cl} (hi : X.N[i]? = some n) (hln : X.env.kindOf n = some .local) (hc : Names X x c)
      (hsu : ∀ (a : Addr) (oe : Obj) (cls : Value) (d : Option Addr) (pn : List (Addr × Obj)), Zc cls d oe → (∃ vs, oe.data = .fields vs) → PSs (X.suite a ((a, oe) :: pn)) (b₀ :: suite) (ts a cls d)) (r : ClsOk X hds l) :
      ClsOk X (.ExceptHandler (some (.Name x np)) (some n) (b₀ :: suite) pos' :: hds) (⟨c, some i, ts⟩ :: l)
section
variable {X : Cx} {body : List Stmt} {h₀ : ExceptHandler} {hds : List ExceptHandler} {l : List Cl} {pos : Pos} {tb : WX → TS} {Wout : WX}
theorem ps_try_cls (hs : X.stack = X.env :: X.outer) (hf : X.env.frame = some X.env.locals) (hN : X.N.Nodup) (tk : Takes X Wout)
    (hb : ∀ (W : WX) (pn : List (Addr × Obj)) (xe : Value → Shared → Prop), Takes (X.tr pn xe) W → PassesOwn (model X.prog X.w) X.A X.env xe → PSs (X.tr pn xe) body (tb W))
    (hh : ClsOk X (h₀ :: hds) l) : PS X (.Try body (h₀ :: hds) [] [] pos) (fun D σ H => tb (wCls X.K Wout D l) D σ H) := by
  refine ⟨fun pins s σ H D I h => ?_⟩
  have ok := I.ok
  have hfr : X.A.frames = some (X.env :: X.outer) := by rw [ok.frames, hs]
  refine wpAny_Try_except ?_
  refine wpAny_mono ((hb (wCls X.K Wout D l) (X.pn ++ pins) (fun e s₁ => wpAny (model X.prog X.w) X.A (noteFrame e X.env) (fun _ s₂ => wpAny (model X.prog X.w) X.A (setFlight e none) (fun _ s₃ =>
    wpAny (model X.prog X.w) X.A (handleBy e X.env (h₀ :: hds)) (SP X pins D) X.xe s₃) X.xe s₂) X.xe s₁) (fun u s' xx => ?_) PassesOwn.looking).run [] s σ H D (I.toTry _) h) (fun f s1 hsp => ?_) (fun e s1 he => he)
  · -- the catch
    obtain ⟨a, B, sI, pins', σ', H', cls, d, rfl, J', nb, up, sky, na, os, ag, w⟩ := xx
    have J : Inv X pins σ' H' sI := J'.ofTry ok
    have sky' : Sky B (X.env :: X.outer) a (Zc cls d) X.env.locals s'.heap := by rw [← hs]; exact sky
    show wpAny (model X.prog X.w) X.A (noteFrame (.ref a) X.env) _ _ _
    refine Sky.land Zc.steady hfr hf sky' fun h3 fl3 up3 => ?_
    have J3 : Inv X pins σ' H' { s' with heap := h3 } := J.landed nb fl3.1 (up.trans up3) os ag
    obtain ⟨oe3, vs3, he3, hz3, hd3⟩ := fl3.there
    have notFr : ∀ {h : Heap} {o : Obj} {vs : Array Value}, h.FunFrames B (X.env :: X.outer) → h.get? a = some o → o.data = .fields vs → a ∉ frs (X.env :: X.outer) := fun {h o vs} ff e dd hm => by
      obtain ⟨_, o', e', hnf⟩ := ff.mem hm
      rw [e] at e'; cases e'
      exact hnf _ dd
    have nfr := notFr fl3.2.2.1 he3 hd3
    have nL : a ≠ X.env.locals := fun z => nfr (List.mem_filterMap.mpr ⟨X.env, List.mem_cons_self, by rw [hf, z]⟩)
    have nF : a ∉ X.fs := fun hm => by
      obtain ⟨e, he, q⟩ := List.mem_filterMap.mp hm
      exact nfr (List.mem_filterMap.mpr ⟨e, List.mem_cons_of_mem _ he, q⟩)
    have S3 := J3.suite he3 hd3 na nL nF
    have LT : PySem.W.Looks (model X.prog X.w) h3 (typeOf (.ref a)) cls := fun A Q E s k q => wpAny_typeOf_ref (k _ _ he3) (by rw [hz3.1]; exact q)
    have test : ∀ {x : Str} {c : Value} {np : Pos} {Q : Value → Shared → Prop} {E : Value → Shared → Prop}, Names X x c → Q c { s' with heap := h3 } → wpAny (model X.prog X.w) (X.A.mark (some (.ref a))) (eval (.Name x np) X.env) Q E { s' with heap := h3 } := fun {x c np Q E} hc q => by
      obtain ⟨hg, hdbg, hm | ⟨hm, hv, hnn⟩⟩ := hc
      · exact ld_glob (X := X.suite a ((a, oe3) :: (X.pn ++ pins))) S3 hg hm q hdbg
      · exact ld_blt (X := X.suite a ((a, oe3) :: (X.pn ++ pins))) S3 hg hm hv q hnn hdbg
    have go : ∀ {hds' : List ExceptHandler} {l' : List Cl}, ClsOk X hds' l' → wCls X.K Wout D l' cls d σ' H' →
        wpAny (model X.prog X.w) X.A (handleBy (.ref a) X.env hds') (SP X pins D) X.xe { s' with heap := h3 } := by
      intro hds' l' hk
      induction hk with
      | nil =>
        intro w
        refine wpAny_handleBy_nil ?_
        obtain ⟨k1, k2, k3, oe, vs, T, oT, ts', he, hz, hd, h1, hr⟩ := id fl3
        unfold PySem.passOn
        refine wpAny_bind (wpAny_field he hd h1 ?_)
        rw [if_neg (show ¬ ((Value.ref T == Value.none) = true) from by simp)]
        have fin : wpAny (model X.prog X.w) X.A (setFlight (.ref a) X.env.frame) (fun _ s4 => wpAny (model X.prog X.w) X.A (throw (.ref a) : Sem Flow) (SP X pins D) X.xe s4) X.xe { s' with heap := h3 } := by
          rw [hf]
          refine HandSPX.setFlight_upZ fl3 fun h4 hh4 up4 => wpAny_throw (tk _ _ ?_)
          exact ⟨a, B, sI, pins, σ', H', cls, d, rfl, J, nb, (up.trans up3).trans up4, .inr (.inr (by rw [hs]; exact hh4)), na, os, ag, w⟩
        first
          | exact wpAny_bind (wpAny_pure (wpAny_bind fin))
          | exact wpAny_bind fin
      | @bare x c ts b₀ suite np pos' hds2 l2 hc hsu r ih =>
        intro w
        obtain ⟨b, hb1, hyes, hno⟩ := w
        refine wpAny_handleBy_cons (codeAny_handlers_test ?_) (by intro q; cases q)
        have LM := PySem.W.exm_one (M := model X.prog X.w) (J3.kIn) LT hb1
        refine test hc (LM.here ?_)
        cases b with
        | true =>
          refine codeAny_handlers_suite ?_
          refine HandSPX.lands_againZ fl3 fun h4 fl4 up4 => ?_
          have J4 : Inv X pins σ' H' { s' with heap := h4 } := J.landed nb fl4.1 ((up.trans up3).trans up4) os ag
          obtain ⟨oe4, vs4, he4, hz4, hd4⟩ := fl4.there
          have S4 := J4.suite he4 hd4 na nL nF
          refine wpAny_mono ((hsu a oe4 cls d (X.pn ++ pins) hz4 ⟨_, hd4⟩).run [] _ _ H' _ S4 (hyes rfl a na)) (fun f s6 hsp => ?_) (fun _ _ z => False.elim z)
          cases f with
          | next =>
            obtain ⟨σ6, H6, S6, q6⟩ := hsp
            exact ⟨_, _, S6.unsuite ok, q6⟩
          | brk =>
            obtain ⟨σ6, H6, S6, q6⟩ := hsp
            exact ⟨_, _, S6.unsuite ok, q6⟩
          | cont =>
            obtain ⟨σ6, H6, S6, q6⟩ := hsp
            exact ⟨_, _, S6.unsuite ok, q6⟩
          | ret u =>
            obtain ⟨v6, σ6, H6, S6, r6, q6⟩ := hsp
            exact ⟨_, _, _, S6.unsuite ok, r6, q6⟩
        | false =>
          show wpAny _ X.A (handleBy (.ref a) X.env hds2) _ _ _
          exact ih (hno rfl)
      | @named x n i c ts b₀ suite np pos' hds2 l2 hi hln hc hsu r ih =>
        intro w
        obtain ⟨b, hb1, hyes, hno⟩ := w
        have hloc : Loc X.env.scope n := .inl hln
        refine wpAny_handleBy_cons (codeAny_handlers_test ?_) (by intro q; cases q)
        have LM := PySem.W.exm_one (M := model X.prog X.w) (J3.kIn) LT hb1
        refine test hc (LM.here ?_)
        cases b with
        | true =>
          refine codeAny_handlers_suite_as ?_
          refine HandSPX.lands_againZ fl3 fun h4 fl4 up4 => ?_
          have J4 : Inv X pins σ' H' { s' with heap := h4 } := J.landed nb fl4.1 ((up.trans up3).trans up4) os ag
          obtain ⟨oe4, vs4, he4, hz4, hd4⟩ := fl4.there
          have S4 := J4.suite he4 hd4 na nL nF
          refine store_ok (X := X.suite a ((a, oe4) :: (X.pn ++ pins))) (v := .ref a) S4 hN hi hloc rfl (fun s5 S5 => ?_) (.inr hln)
          refine wpAny_mono ((hsu a oe4 cls d (X.pn ++ pins) hz4 ⟨_, hd4⟩).run [] s5 _ H' _ S5 (hyes rfl a na)) (fun f s6 hsp => ?_) (fun _ _ z => False.elim z)
          have end_ : ∀ {σ6 : L2.St} {H6 : Hp} {Q : Shared → Prop}, Inv (X.suite a ((a, oe4) :: (X.pn ++ pins))) [] σ6 H6 s6 → (∀ s7, Inv X pins (σ6.set i none) H6 s7 → Q s7) →
              wpAny (model X.prog X.w) X.A (do bindName X.env n .none; unbindBehindTheSuite X.env n pos') (fun _ s7 => Q s7) X.xe s6 := fun {σ6 H6 Q} S6 hq => gone_ok (S6.unsuite ok) hN hi hln hq
          cases f with
          | next =>
            obtain ⟨σ6, H6, S6, q6⟩ := hsp
            exact end_ S6 fun s7 J7 => ⟨_, _, J7, q6⟩
          | brk =>
            obtain ⟨σ6, H6, S6, q6⟩ := hsp
            exact end_ S6 fun s7 J7 => ⟨_, _, J7, q6⟩
          | cont =>
            obtain ⟨σ6, H6, S6, q6⟩ := hsp
            exact end_ S6 fun s7 J7 => ⟨_, _, J7, q6⟩
          | ret u =>
            obtain ⟨v6, σ6, H6, S6, r6, q6⟩ := hsp
            exact end_ S6 fun s7 J7 => ⟨_, _, _, J7, r6, q6⟩
        | false =>
          show wpAny _ X.A (handleBy (.ref a) X.env hds2) _ _ _
          exact ih (hno rfl)
    exact go hh w
  · cases f with
    | next =>
      obtain ⟨σ', H', J', q⟩ := hsp
      exact wpAny_execs_nil ⟨σ', H', J'.ofTry ok, q⟩
    | brk =>
      obtain ⟨σ', H', J', q⟩ := hsp
      exact ⟨σ', H', J'.ofTry ok, q⟩
    | cont =>
      obtain ⟨σ', H', J', q⟩ := hsp
      exact ⟨σ', H', J'.ofTry ok, q⟩
    | ret u =>
      obtain ⟨v, σ', H', J', r, q⟩ := hsp
      exact ⟨v, σ', H', J'.ofTry ok, r, q⟩
end
end DL

set_option Elab.async false
set_option linter.all false
set_option maxRecDepth 100000
set_option maxHeartbeats 4000000
/-! DL10: try over data. -/
namespace DL
open PySem PySem.Spec PyProof.Rows L2
structure ClD where
  m : Str → Option Bool
  i : Option Nat
  ts : Addr → Value → Option Addr → TSd
def goneD (E : Endd) (i : Nat) : Endd := { nx := fun s => E.nx (sd s i none), rt := E.rt, bk := fun s => E.bk (sd s i none), ct := fun s => E.ct (sd s i none) }
def xcCls (E : Endd) (Xc : XcD) : List ClD → XcD
  | [] => Xc
  | q :: r => fun c es s => match q.m c with
    | some true => ∀ (a C dx : Addr), (match q.i with
        | some i => q.ts a (.ref C) (some dx) (goneD E i) (sd s i (some (.exc a C dx c es)))
        | none => q.ts a (.ref C) (some dx) E s)
    | some false => xcCls E Xc r c es s
    | none => False
def dTry (tb : XcD → TSd) (l : List ClD) (Xc : XcD) : TSd := fun E s => tb (xcCls E Xc l) E s
section
variable {G : Cw} {F : Frm} {X : Cx} {r r' : Rt} {S S' H H' : Hp} {σ : L2.St} {s : Sd}
theorem frame_in (g : Good G F r S H) : Good G ⟨F.H, S, r⟩ r S H where
  sub := g.sub
  keep := fun a o e n => g.keep a o e fun z => n (g.rF a z)
  frz := fun _ _ _ => rfl
  ext := .refl _
  bag := g.bag
  rb := fun a e => .inl e
  rF := fun a e => e
theorem frame_out (g : Good G F r S H) (g' : Good G ⟨F.H, S, r⟩ r' S' H') : Good G F r' S' H' ∧ Ext r S r' S' := by
  refine ⟨⟨g'.sub, fun a o e n => g'.keep a o e fun z => ?_, fun a o e => (g'.frz a o e).trans (g.frz a o e), g.ext.trans g'.ext, g'.bag, fun a e => ?_, fun a e => g'.rF a (g.rF a e)⟩, g'.ext, ⟨g'.rF⟩⟩
  · rcases g.rb a z with h | h
    · exact n h
    · rw [h] at e; cases e
  · rcases g'.rb a e with h | h
    · exact g.rb a h
    · exact .inr h
theorem Rep.frame {F2 : Frm} (h : F2.H = F.H) (rp : Rep G F r S H σ s) : Rep G F2 r S H σ s := by
  refine ⟨rp.len, fun i => ?_, rp.dis⟩
  cases e : gd s i with
  | none => trivial
  | some d =>
    have q := rp.slot i
    rw [e] at q
    cases n : isOwn d with
    | false => exact slot_of n (slot_val q n)
    | true =>
      cases d with
      | own ds =>
        obtain ⟨l, e1, o⟩ := q
        exact ⟨l, e1, o.ex, o.s, by rw [h]; exact o.f, o.b⟩
      | _ => cases n
end
inductive ClsD (G : Cw) (X : Cx) : List ExceptHandler → List ClD → Prop
  | nil : ClsD G X [] []
  | bare {x : Str} {c : Value} {m : Str → Option Bool} {ts : Addr → Value → Option Addr → TSd} {b₀ : Stmt} {suite : List Stmt} {np pos' : Pos} {hds : List ExceptHandler} {l : List ClD} (hc : Names X x c) (hm : ∀ n b C, m n = some b → G.cls n = some C → PySem.W.exmOne X.K (.ref C) c = some b)
      (hsu : ∀ (F : Frm) (a : Addr) (oe : Obj) (cls : Value) (d : Option Addr) (pn : List (Addr × Obj)), Zc cls d oe → (∃ vs, oe.data = .fields vs) → PDSs G F (X.suite a ((a, oe) :: pn)) (b₀ :: suite) (ts a cls d)) (r : ClsD G X hds l) :
      ClsD G X (.ExceptHandler (some (.Name x np)) none (b₀ :: suite) pos' :: hds) (⟨m, none, ts⟩ :: l)
  | named {x n : Str} {i : Nat} {c : Value} {m : Str → Option Bool} {ts : Addr → Value → Option Addr → TSd} {b₀ : Stmt} {suite : List Stmt} {np pos' : Pos} {hds : List ExceptHandler} {l : List ClD} (hi : X.N[i]? = some n) (hln : X.env.kindOf n = some .local) (hc : Names X x c) (hm : ∀ n b C, m n = some b → G.cls n = some C → PySem.W.exmOne X.K (.ref C) c = some b)
      (hsu : ∀ (F : Frm) (a : Addr) (oe : Obj) (cls : Value) (d : Option Addr) (pn : List (Addr × Obj)), Zc cls d oe → (∃ vs, oe.data = .fields vs) → PDSs G F (X.suite a ((a, oe) :: pn)) (b₀ :: suite) (ts a cls d)) (r : ClsD G X hds l) :
      ClsD G X (.ExceptHandler (some (.Name x np)) (some n) (b₀ :: suite) pos' :: hds) (⟨m, some i, ts⟩ :: l)
section
variable {G : Cw} {F : Frm} {X : Cx}
theorem ClsD.ok {hds : List ExceptHandler} {l : List ClD} (h : ClsD G X hds l) (F : Frm) : ∃ l', ClsOk X hds l' ∧ ∀ (Xc : XcD) (r : Rt) (S H0 : Hp) (Ed : Endd) (E : Ends), Good G F r S H0 → EndsOk G F r S Ed E →
    ∀ cls d σ H, LW G ⟨F.H, S, r⟩ (xcCls Ed Xc l) cls d σ H → wCls X.K (LW G F Xc) E l' cls d σ H := by
  induction h with
  | nil =>
    refine ⟨[], .nil, fun Xc r S H0 Ed E g k cls d σ H => ?_⟩
    rintro ⟨r', S', s, c, C, dx, vs, ds, h1, h2, h3, g', rp', h4, h5, h6, h7⟩
    exact ⟨r', S', s, c, C, dx, vs, ds, h1, h2, h3, (frame_out g g').1, rp'.frame (by rfl), h4, h5, h6, h7⟩
  | @bare x c m ts b₀ suite np pos' hds l hc hm hsu rr ih =>
    obtain ⟨l', ok, ih⟩ := ih
    refine ⟨_, .bare (ts := fun a cls d => LS G F (ts a cls d)) hc (fun a oe cls d pn hz hf => (hsu F a oe cls d pn hz hf).ps) ok, fun Xc r S H0 Ed E g k cls d σ H => ?_⟩
    rintro ⟨r', S', s, c', C, dx, vs, ds, h1, h2, h3, g', rp', h4, h5, h6, h7⟩
    obtain ⟨g2, ex⟩ := frame_out g g'
    unfold xcCls at h7
    cases hq : m c' with
    | none => simp only [hq] at h7
    | some b =>
      refine ⟨b, by rw [h1]; exact hm _ _ _ hq h3, fun hb a na => ?_, fun hb => ?_⟩
      · subst hb
        simp only [hq] at h7
        have q := h7 a C dx
        subst h1 h2
        exact ⟨r', S', s, Ed, g2, rp'.frame (by rfl), q, k.ext ex⟩
      · subst hb
        simp only [hq] at h7
        exact ih Xc r S H0 Ed E g k cls d σ H ⟨r', S', s, c', C, dx, vs, ds, h1, h2, h3, g', rp', h4, h5, h6, h7⟩
  | @named x n i c m ts b₀ suite np pos' hds l hi hln hc hm hsu rr ih =>
    obtain ⟨l', ok, ih⟩ := ih
    refine ⟨_, .named (ts := fun a cls d => LS G F (ts a cls d)) hi hln hc (fun a oe cls d pn hz hf => (hsu F a oe cls d pn hz hf).ps) ok, fun Xc r S H0 Ed E g k cls d σ H => ?_⟩
    rintro ⟨r', S', s, c', C, dx, vs, ds, h1, h2, h3, g', rp', h4, h5, h6, h7⟩
    obtain ⟨g2, ex⟩ := frame_out g g'
    unfold xcCls at h7
    cases hq : m c' with
    | none => simp only [hq] at h7
    | some b =>
      refine ⟨b, by rw [h1]; exact hm _ _ _ hq h3, fun hb a na => ?_, fun hb => ?_⟩
      · subst hb
        simp only [hq] at h7
        have q := h7 a C dx
        subst h1 h2
        have kk := k.ext ex
        exact ⟨r', S', _, goneD Ed i, g2, (rp'.frame (by rfl)).set (.exc h3 h4 h5 h6), q, fun σ' H' ⟨r2, S2, s2, e2, g3, rp3, q3⟩ => kk.nx _ _ ⟨r2, S2, _, e2, g3, rp3.wipe, q3⟩, kk.rt, fun σ' H' ⟨r2, S2, s2, e2, g3, rp3, q3⟩ => kk.bk _ _ ⟨r2, S2, _, e2, g3, rp3.wipe, q3⟩, fun σ' H' ⟨r2, S2, s2, e2, g3, rp3, q3⟩ => kk.ct _ _ ⟨r2, S2, _, e2, g3, rp3.wipe, q3⟩⟩
      · subst hb
        simp only [hq] at h7
        exact ih Xc r S H0 Ed E g k cls d σ H ⟨r', S', s, c', C, dx, vs, ds, h1, h2, h3, g', rp', h4, h5, h6, h7⟩
theorem pds_try {body : List Stmt} {h₀ : ExceptHandler} {hds : List ExceptHandler} {l : List ClD} {pos : Pos} {tb : XcD → TSd} {Xc : XcD} (hs : X.stack = X.env :: X.outer) (hf : X.env.frame = some X.env.locals) (hN : X.N.Nodup) (tk : Takes X (LW G F Xc))
    (hb : ∀ (F : Frm) (Xc : XcD) (pn : List (Addr × Obj)) (xe : Value → Shared → Prop), Takes (X.tr pn xe) (LW G F Xc) → PassesOwn (model X.prog X.w) X.A X.env xe → PDSs G F (X.tr pn xe) body (tb Xc))
    (hh : ClsD G X (h₀ :: hds) l) : PDS G F X (.Try body (h₀ :: hds) [] [] pos) (dTry tb l Xc) := by
  obtain ⟨l', ok, imp⟩ := hh.ok F
  refine PDS.ofQ (ps_try_cls (tb := fun W D σ H => ∃ F' Xc', (∀ cls d σ H, LW G F' Xc' cls d σ H → W cls d σ H) ∧ LS G F' (tb Xc') D σ H) hs hf hN tk (fun W pn xe tk2 pas => ⟨fun pins s σ H D I ⟨F', Xc', im, q⟩ => (hb F' Xc' pn xe (tk2.imp im) pas).ps.run pins s σ H D I q⟩) ok) fun E σ H r S s Ed g rp q k => ?_
  refine ⟨⟨F.H, S, r⟩, xcCls Ed Xc l, imp Xc r S H Ed E g k, r, S, s, Ed, frame_in g, rp.frame (by rfl), q, ?_⟩
  have cN : ∀ {Nd : Sd → Prop} {σ' : L2.St} {H' : Hp}, PoN G ⟨F.H, S, r⟩ r S Nd σ' H' → PoN G F r S Nd σ' H' := fun ⟨r', S', s', e, g', rp', q⟩ => ⟨r', S', s', e, (frame_out g g').1, rp'.frame (by rfl), q⟩
  exact ⟨fun σ' H' h => k.nx _ _ (cN h), fun v H' ⟨r', S', d, e, g', a, q⟩ => k.rt _ _ ⟨r', S', d, e, (frame_out g g').1, a, q⟩, fun σ' H' h => k.bk _ _ (cN h), fun σ' H' h => k.ct _ _ (cN h)⟩

/-! ### a caught error -/
theorem lookup_zip {α : Type} {x : Str} {v : α} : ∀ {P : List Str} {us : List α} {i : Nat}, P.Nodup → P[i]? = some x → us[i]? = some v → (P.zip us).lookup x = some v
  | [], _, i, _, e, _ => by simp at e
  | _ :: _, [], i, _, _, e => by simp at e
  | p :: P, u :: us, 0, nd, e, e2 => by
    simp at e e2
    subst e e2
    simp [List.lookup]
  | p :: P, u :: us, i + 1, nd, e, e2 => by
    rw [List.nodup_cons] at nd
    have e' : P[i]? = some x := by simpa using e
    have e2' : us[i]? = some v := by simpa using e2
    have ne : (x == p) = false := by
      have : x ≠ p := fun z => nd.1 (by rw [← z]; exact List.mem_of_getElem? e')
      simpa using this
    simp [List.lookup, ne, lookup_zip nd.2 e' e2']
def dXf (a : Addr) (cls : Value) (d : Option Addr) (c0 : Str) (j : Nat) (t : TEd) : TEd := fun s Q => t s fun x s1 => match x with
  | .exc a' C dx c es => a' = a ∧ cls = .ref C ∧ d = some dx ∧ c = c0 ∧ (match es[j]? with | some v => Q v s1 | none => False)
  | _ => False
theorem pd_xf {a C : Addr} {oe : Obj} {cls : Value} {d : Option Addr} {pn : List (Addr × Obj)} {e : Expr} {t : TEd} {pos : Pos} {n c0 : Str} (j : Nat) (hC : G.cls c0 = some C) (T : XfC X.K C) (hno : PySem.W.findIn X.K (.ref C) n = some none) (nd : (G.flds c0).Nodup) (hj : (G.flds c0)[j]? = some n)
    (hz : Zc cls d oe) (hf : ∃ vs, oe.data = .fields vs) (he : PD G F (X.suite a ((a, oe) :: pn)) e t) (hb : attributeBase e n X.env (eval e X.env) = eval e X.env := by rfl) :
    PD G F (X.suite a ((a, oe) :: pn)) (.Attribute e n pos) (dXf a cls d c0 j t) :=
  PD.ofQ (pe_xf T hno hz hf he.pe hb) fun σ H r S s Qd Q g rp q k => LE.use g rp q fun v H' r' S' s' dd e' g' rp' ad q' => by
    cases ad with
    | exc h1 h2 h3 a1 =>
      obtain ⟨rfl, hc, hd, rfl, q2⟩ := q'
      rename_i C' dx vs cc ds
      rw [hC] at h1
      cases h1
      cases ej : ds[j]? with
      | none => simp only [ej] at q2
      | some y =>
        simp only [ej] at q2
        obtain ⟨v, ev, av⟩ := a1.get ej
        exact ⟨rfl, hc, dx, _, v, hd, g'.sub _ _ h2, lookup_zip nd hj ev, k _ _ ⟨r', S', s', y, e', g', rp', av, q2⟩⟩
    | _ => exact q'.elim
/-- isinstance(e, c), e the caught error -/
def rIsEd (X : Cx) (a : Addr) (cls : Value) (d : Option Addr) : List V → Hp → VK → Prop := fun xs H Q => ∃ (c : V) (cv : Value) (D dd : Addr) (fs : List (Str × V)) (b : Bool), xs = [.ref a, c] ∧ cls = .ref D ∧ d = some dd ∧ ExcC X.K D ∧ H dd = some (.xd fs) ∧ ClsV c cv ∧ PySem.W.kitOne X.K (.ref D) cv = some b ∧ Q (.bl b) H
theorem call_isEd {a : Addr} {oe : Obj} {cls : Value} {d : Option Addr} {pn : List (Addr × Obj)} (hz : Zc cls d oe) (hf : ∃ vs, oe.data = .fields vs) : CallR (X.suite a ((a, oe) :: pn)) (.builtin "isinstance") (rIsEd X a cls d) := by
  intro pins s σ H xs us Q I r h
  obtain ⟨c, cv, D, dd, fs, b, rfl, rfl, rfl, C, hdd, hcv, e, q⟩ := h
  cases r with
  | cons rx rr =>
    cases rr with
    | cons rt rr =>
      cases rr
      cases rx
      have ec := hcv.eq rt
      subst ec
      obtain ⟨hget, _⟩ := I.pin (a, oe) (List.mem_append.mpr (.inl List.mem_cons_self))
      obtain ⟨vs, hv⟩ := hf
      have hx : ObjOk X.prog X.w H s.heap dd (.xd fs) := I.hok dd _ hdd
      obtain ⟨mA, hns, hr⟩ := hx
      obtain ⟨od, ho, hl⟩ := lookIn_ns hns
      have J : PySem.W.InstAt s.heap a oe D (some od) := ⟨hget, hz.1, by unfold PySem.W.notCls; rw [hv] <;> rfl, by rw [hz.2]; exact ho⟩
      exact PySem.W.kia_one (PySem.W.dl_kitx C.hg C.hk C.hs C.hd C.ha C.hn C.ht C.hm) I.kIn J e (fun z => nomatch z) fun tk => ⟨.bl b, H, I.kept (t' := tk) fun _ _ z => z, rfl, q⟩
def dIsE (a : Addr) (cls : Value) (d : Option Addr) (f : Str → Option Bool) (t : TEd) : TEd := fun s Q => t s fun x s1 => match x with
  | .exc a' C dx c es => a' = a ∧ cls = .ref C ∧ d = some dx ∧ (match f c with | some b => Q (.bl b) s1 | none => False)
  | _ => False
theorem pd_isE {a : Addr} {oe : Obj} {cls : Value} {d : Option Addr} {pn : List (Addr × Obj)} {e : Expr} {t : TEd} {pos p p1 : Pos} {tn : Str} {cV : V} {cv : Value} {f : Str → Option Bool} (hg : Gl X "isinstance") (hm : X.mg "isinstance" = none) (hcl : PE (X.suite a ((a, oe) :: pn)) (.Name tn p1) (tC cV)) (hcv : ClsV cV cv)
    (hk : ∀ c b D, f c = some b → G.cls c = some D → ExcC X.K D ∧ PySem.W.kitOne X.K (.ref D) cv = some b)
    (hz : Zc cls d oe) (hf : ∃ vs, oe.data = .fields vs) (he : PD G F (X.suite a ((a, oe) :: pn)) e t)
    (h1 : starEach [e, .Name tn p1] X.env = (false, eval e X.env) :: starEach [.Name tn p1] X.env := by rfl) (h2 : starEach [.Name tn p1] X.env = (false, eval (.Name tn p1) X.env) :: starEach [] X.env := by rfl) (hpl : (backTo pos (starEach [.Name tn p1] X.env)).any (·.1) = false := by rfl) :
    PD G F (X.suite a ((a, oe) :: pn)) (.Call (.Name "isinstance" p) [e, .Name tn p1] [] pos) (dIsE a cls d f t) :=
  PD.ofQ (pe_callB (X := X.suite a ((a, oe) :: pn)) (call_isEd hz hf) hg hm PyProof.Rows.boot_isinstance (pa_cons he.pe (pa_cons hcl pa_nil h2) h1) (he := h1) (hpl := hpl)) fun σ H r S s Qd Q g rp q k => LE.use g rp q fun v H' r' S' s' dd e' g' rp' ad q' => by
    cases ad with
    | exc h1 h2 h3 a1 =>
      obtain ⟨rfl, hc, hd, q2⟩ := q'
      rename_i C' dx c vs ds
      cases ef : f c with
      | none => simp only [ef] at q2
      | some b =>
        simp only [ef] at q2
        obtain ⟨k1, k2⟩ := hk _ _ _ ef h1
        exact ⟨cV, cv, C', dx, _, b, rfl, hc, hd, k1, g'.sub _ _ h2, hcv, k2, k _ _ ⟨r', S', s', .bl b, e', g', rp', .bl b, q2⟩⟩
    | _ => exact q'.elim
end
end DL

set_option Elab.async false
set_option linter.all false
set_option maxRecDepth 100000
set_option maxHeartbeats 4000000
/-! DL7: the law's drawing bag: _law_pick, _law_bag_of, the law's own def. -/
namespace DL
open PySem PySem.Spec L2
theorem log2_64 {n : Nat} (h : n < 2 ^ 63) : n.log2 < 64 := by
  by_cases h0 : n = 0
  · subst h0; decide
  · rw [Nat.log2_lt h0]; omega
theorem mulOk_r {i j : Int} (h : j.natAbs < 2 ^ 63) : mulOk i j := .inr (.inl (log2_64 h))
theorem big_div {x m : Int} (h : big x) (h0 : 0 ≤ x) (hm : 0 < m) : big (x / m) ∧ 0 ≤ x / m := by
  have h1 : 0 ≤ x / m := Int.ediv_nonneg h0 (by omega)
  have h2 : x / m ≤ x := Int.ediv_le_self _ h0
  exact ⟨Nat.lt_of_le_of_lt (by omega) h, h1⟩

/-! ### the reading of _law_pick -/
abbrev rAdd0 : R2 := rI0 fun i j => .int (i + j)
abbrev rMul0 : R2 := rI mulOk fun i j => .int (i * j)
abbrev rMod0 : R2 := rI (fun _ j => 0 < j) fun i j => .int (i % j)
abbrev rDiv0 : R2 := rI CDivW fun i j => .int (i / j)
abbrev rPow0 : R2 := rI CPow fun i j => .int (i ^ j.toNat)
abbrev rLt0 : R2 := rI0 fun i j => .bl (decide (i < j))
abbrev rGt0 : R2 := rI0 fun i j => .bl (decide (j < i))
abbrev rGe0 : R2 := rI0 fun i j => .bl (decide (j ≤ i))
def rIntH : List V → Hp → VK → Prop := fun xs H Q => (∃ i, xs = [.int i] ∧ Q (.int i) H) ∨ ∃ k, xs = [.bl k] ∧ Q (.int (if k then 1 else 0)) H
def rLenH (K : PySem.W.Frag) : List V → Hp → VK → Prop := fun xs H Q => ∃ x n, xs = [x] ∧ LenV K x H n ∧ Q (.int n) H
def bG (k : Str) : TE := tDGet (tVar 0) (tC (.str k))
def bP (k : Str) (tv : TE) : TS := sDPut (tVar 0) (tC (.str k)) tv
def cI (i : Int) : TE := tC (.int i)
def tMod1 (t m : TE) : TE := tOp rMod0 (tCB rIntH (tCons t tNil)) m
def tPick (K : PySem.W.Frag) : TS :=
  tSeq (bP "count" (tOp rAdd0 (bG "count") (cI 1)))
  (tSeq (tIfS (tTest (tOp rGt0 (bG "rest") (cI 0)))
     (tSeq (tAsg (bG "rest") (gName 2)) (tSeq (bP "rest" (tOp rDiv0 (tVar 2) (tVar 1))) (tRet (tMod1 (tVar 2) (tVar 1))))) tNext)
  (tSeq (tAsg (cI 0) (gName 3))
  (tSeq (tIfS (tTest (tOp rLt0 (bG "at") (tCB (rLenH K) (tCons (bG "cells") tNil))))
     (tSeq (tAsg (tOp (rIx K) (bG "cells") (bG "at")) (gName 3))
     (tSeq (bP "at" (tOp rAdd0 (bG "at") (cI 1)))
       (tIfS (tTest (tOp rGe0 (tVar 3) (tOp rPow0 (cI 10) (cI 18))))
          (tSeq (bP "rest" (tOp rDiv0 (tVar 3) (tVar 1))) (tRet (tMod1 (tVar 3) (tVar 1)))) tNext))) tNext)
  (tSeq (tAsg (tMod1 (tOp rAdd0 (tOp rAdd0 (tOp rMul0 (tVar 3) (cI 48271)) (tOp rMul0 (bG "mixed") (cI 69621))) (tOp rMul0 (bG "count") (cI 16807))) (cI 2147483647)) (gName 2))
  (tSeq (tAsg (tMod1 (tOp rAdd0 (tOp rMul0 (tVar 2) (cI 48271)) (cI 12345)) (cI 2147483647)) (gName 2))
  (tSeq (bP "mixed" (tMod1 (tVar 2) (cI 1000003)))
    (tRet (tMod1 (tOp rDiv0 (tVar 2) (cI 11)) (tVar 1)))))))))

def Val (te : TE) (σ : L2.St) (H : Hp) (v : V) : Prop := ∀ Q : VK, Q v H → te σ H Q
theorem val_var {σ : L2.St} {H : Hp} {i : Nat} {v : V} (h : σ[i]? = some (some v)) : Val (tVar i) σ H v := fun _ q => ⟨v, h, q⟩
theorem val_op {σ : L2.St} {H : Hp} {x y z : V} {ta tb : TE} {r : R2} (ha : Val ta σ H x) (hb : Val tb σ H y) (hr : ∀ Q : VK, Q z H → r x y H Q) : Val (tOp r ta tb) σ H z := fun Q q => ha _ (hb _ (hr _ q))
section
variable {σ : L2.St} {H : Hp} {a c : Addr} {kvs : List (Key × V)} {k : Str} {v : V} {D : Ends} {tv : TE}
theorem val_bG (h0 : σ[0]? = some (some (.ref a))) (hH : H a = some (.dK kvs)) (hv : valV kvs (.inr k) = some v) : Val (bG k) σ H v := fun Q q =>
  ⟨_, h0, a, v, rfl, (by rw [← hv]; exact DGet.k (k := .inr k) hH), q⟩
theorem st_bP (h0 : σ[0]? = some (some (.ref a))) (hH : H a = some (.dK kvs)) (hl : kvs.length < sizeLine) (hv : Val tv σ H v) (q : D.nx σ (upd H a (.dK (putK kvs (.inr k) v)))) : bP k tv D σ H :=
  hv _ ⟨_, h0, a, _, rfl, DPut.k (k := .inr k) hH hl, q⟩
theorem val_I0 {f : Int → Int → V} {ta tb : TE} {i j : Int} (ha : Val ta σ H (.int i)) (hb : Val tb σ H (.int j)) : Val (tOp (rI0 f) ta tb) σ H (f i j) := val_op ha hb fun Q q => ⟨i, j, rfl, rfl, q⟩
theorem val_I {C : Int → Int → Prop} {f : Int → Int → V} {ta tb : TE} {i j : Int} (ha : Val ta σ H (.int i)) (hb : Val tb σ H (.int j)) (hc : C i j) : Val (tOp (rI C f) ta tb) σ H (f i j) := val_op ha hb fun Q q => ⟨i, j, rfl, rfl, hc, q⟩
theorem val_cI {i : Int} : Val (cI i) σ H (.int i) := fun _ q => q
theorem val_int {t : TE} {i : Int} (h : Val t σ H (.int i)) : Val (tCB rIntH (tCons t tNil)) σ H (.int i) := fun Q q => h _ (.inl ⟨i, rfl, q⟩)
theorem val_mod1 {t m : TE} {i j : Int} (h : Val t σ H (.int i)) (hm : Val m σ H (.int j)) (hj : 0 < j) : Val (tMod1 t m) σ H (.int (i % j)) := val_I (val_int h) hm hj
theorem st_asg {t : TE} {i : Nat} (h : Val t σ H v) (q : D.nx (σ.set i (some v)) H) : tAsg t (gName i) D σ H := h _ q
theorem st_seq {t1 t2 : TS} (h : t1 { D with nx := t2 D } σ H) : tSeq t1 t2 D σ H := h
theorem st_next (q : D.nx σ H) : tNext D σ H := q
theorem st_ret {t : TE} (h : Val t σ H v) (q : D.rt v H) : tRet t D σ H := h _ q
theorem st_ifT {t : TE} {w1 w2 : TS} {b : Bool} (h : Val t σ H (.bl b)) (q1 : b = true → w1 D σ H) (q2 : b = false → w2 D σ H) : tIfS (tTest t) w1 w2 D σ H := by
  refine h _ ⟨b, rfl, ?_⟩
  cases b with
  | true => exact q1 rfl
  | false => exact q2 rfl
theorem sq_bP {t2 : TS} (h0 : σ[0]? = some (some (.ref a))) (hH : H a = some (.dK kvs)) (hl : kvs.length < sizeLine) (hv : Val tv σ H v) (q : t2 D σ (upd H a (.dK (putK kvs (.inr k) v)))) : tSeq (bP k tv) t2 D σ H := st_bP h0 hH hl hv q
theorem sq_asg {t : TE} {t2 : TS} {i : Nat} (h : Val t σ H v) (q : t2 D (σ.set i (some v)) H) : tSeq (tAsg t (gName i)) t2 D σ H := st_asg h q
theorem sq_if {t : TE} {w1 t2 : TS} {b : Bool} (h : Val t σ H (.bl b)) (q1 : b = true → w1 { D with nx := t2 D } σ H) (q2 : b = false → t2 D σ H) : tSeq (tIfS (tTest t) w1 tNext) t2 D σ H := st_ifT h q1 q2
end
section
variable {c : Addr} {x1 x2 x3 x4 : Int} {v : Int}
theorem get_cells : valV (bagKvs c x1 x2 x3 x4) (.inr "cells") = some (.ref c) := by rfl
theorem get_at : valV (bagKvs c x1 x2 x3 x4) (.inr "at") = some (.int x1) := by rfl
theorem get_rest : valV (bagKvs c x1 x2 x3 x4) (.inr "rest") = some (.int x2) := by rfl
theorem get_mixed : valV (bagKvs c x1 x2 x3 x4) (.inr "mixed") = some (.int x3) := by rfl
theorem get_count : valV (bagKvs c x1 x2 x3 x4) (.inr "count") = some (.int x4) := by rfl
theorem put_at : putK (bagKvs c x1 x2 x3 x4) (.inr "at") (.int v) = bagKvs c v x2 x3 x4 := by rfl
theorem put_rest : putK (bagKvs c x1 x2 x3 x4) (.inr "rest") (.int v) = bagKvs c x1 v x3 x4 := by rfl
theorem put_mixed : putK (bagKvs c x1 x2 x3 x4) (.inr "mixed") (.int v) = bagKvs c x1 x2 v x4 := by rfl
theorem put_count : putK (bagKvs c x1 x2 x3 x4) (.inr "count") (.int v) = bagKvs c x1 x2 x3 v := by rfl
end
/-- the bag's object under the writes -/
structure BagH (H0 H : Hp) (a c : Addr) (ns : List Int) : Prop where
  ex : ∃ x1 x2 x3 x4 : Int, H a = some (.dK (bagKvs c x1 x2 x3 x4)) ∧ 0 ≤ x1 ∧ 0 ≤ x2 ∧ big x2 ∧ 0 ≤ x3 ∧ x3 < 1000003
  old : ∀ b, b ≠ a → H b = H0 b
theorem five {c : Addr} {x1 x2 x3 x4 : Int} : (bagKvs c x1 x2 x3 x4).length < sizeLine := by show 5 < sizeLine; decide
section
variable {H0 H : Hp} {a c : Addr} {ns : List Int} {σ : L2.St} {D : Ends} {tv : TE} {v : Int}
theorem old_upd (h : ∀ b, b ≠ a → H b = H0 b) {o : HO} : ∀ b, b ≠ a → upd H a o b = H0 b := fun b hb => by rw [upd_ne hb, h b hb]
theorem emod_rng {i j : Int} (h : 0 < j) : 0 ≤ i % j ∧ i % j < j := ⟨Int.emod_nonneg _ (by omega), Int.emod_lt_of_pos _ h⟩
theorem pick_run {K : PySem.W.Frag} {many : Int} (B : BagH H0 H a c ns) (hc : ∀ b, c = a → b = a) (h0c : H0 c = some (.lst (ns.map V.int))) (hca : c ≠ a) (hb : ∀ z ∈ ns, big z) (hn : ns.length ≤ 1000) (hm : 0 < many) (hml : many.natAbs.log2 < 9000)
    (e0 : σ[0]? = some (some (.ref a))) (e1 : σ[1]? = some (some (.int many))) (hσ : σ.length = 4)
    (k : ∀ r H', 0 ≤ r → r < many → BagH H0 H' a c ns → D.rt (.int r) H') : tPick K D σ H := by
  obtain ⟨⟨x1, x2, x3, x4, hH, p1, p2, p2b, p3, p3b⟩, old⟩ := B
  match σ, hσ with
  | [s0, s1, s2, s3], _ =>
  simp only [List.getElem?_cons_zero, List.getElem?_cons_succ, Option.some.injEq] at e0 e1
  subst e0 e1
  unfold tPick
  refine sq_bP rfl hH five (val_I0 (val_bG rfl hH get_count) val_cI) ?_
  rw [put_count]
  have hH1 : upd H a (.dK (bagKvs c x1 x2 x3 (x4 + 1))) a = some (.dK (bagKvs c x1 x2 x3 (x4 + 1))) := upd_same
  have old1 := old_upd old (o := .dK (bagKvs c x1 x2 x3 (x4 + 1)))
  revert hH1 old1
  generalize upd H a (.dK (bagKvs c x1 x2 x3 (x4 + 1))) = H1
  generalize x4 + 1 = x4'
  intro hH1 old1
  refine sq_if (b := decide (0 < x2)) (val_I0 (f := fun i j => .bl (decide (j < i))) (val_bG rfl hH1 get_rest) val_cI) (fun hb1 => ?_) (fun hb1 => ?_)
  · have hx2 : 0 < x2 := of_decide_eq_true hb1
    refine sq_asg (val_bG rfl hH1 get_rest) ?_
    refine sq_bP rfl hH1 five (val_I (f := fun i j => .int (i / j)) (val_var rfl) (val_var rfl) ⟨hm, hml⟩) ?_
    rw [put_rest]
    refine st_ret (val_mod1 (val_var rfl) (val_var rfl) hm) ?_
    obtain ⟨q1, q2⟩ := big_div (m := many) p2b p2 hm
    exact k _ _ (emod_rng hm).1 (emod_rng hm).2 ⟨⟨x1, x2 / many, x3, x4', upd_same, p1, q2, q1, p3, p3b⟩, old_upd old1⟩
  refine sq_asg val_cI ?_
  -- the tail: from any cell on
  have tail : ∀ (cell : Int) (y1 y2 : Int) (H2 : Hp), H2 a = some (.dK (bagKvs c y1 y2 x3 x4')) → 0 ≤ y1 → 0 ≤ y2 → big y2 → (∀ b, b ≠ a → H2 b = H0 b) →
      tSeq (tAsg (tMod1 (tOp rAdd0 (tOp rAdd0 (tOp rMul0 (tVar 3) (cI 48271)) (tOp rMul0 (bG "mixed") (cI 69621))) (tOp rMul0 (bG "count") (cI 16807))) (cI 2147483647)) (gName 2))
        (tSeq (tAsg (tMod1 (tOp rAdd0 (tOp rMul0 (tVar 2) (cI 48271)) (cI 12345)) (cI 2147483647)) (gName 2))
        (tSeq (bP "mixed" (tMod1 (tVar 2) (cI 1000003)))
          (tRet (tMod1 (tOp rDiv0 (tVar 2) (cI 11)) (tVar 1))))) D [some (.ref a), some (.int many), s2, some (.int cell)] H2 := by
    intro cell y1 y2 H2 hH2 r1 r2 r2b old2
    have w3 : Val (tVar 3) [some (.ref a), some (.int many), s2, some (.int cell)] H2 (.int cell) := val_var rfl
    have v1 : Val (tOp rMul0 (tVar 3) (cI 48271)) [some (.ref a), some (.int many), s2, some (.int cell)] H2 (.int (cell * 48271)) := val_I w3 val_cI (mulOk_r (by decide))
    have v2 : Val (tOp rMul0 (bG "mixed") (cI 69621)) [some (.ref a), some (.int many), s2, some (.int cell)] H2 (.int (x3 * 69621)) := val_I (val_bG rfl hH2 get_mixed) val_cI (mulOk_r (by decide))
    have v3 : Val (tOp rMul0 (bG "count") (cI 16807)) [some (.ref a), some (.int many), s2, some (.int cell)] H2 (.int (x4' * 16807)) := val_I (val_bG rfl hH2 get_count) val_cI (mulOk_r (by decide))
    refine sq_asg (val_mod1 (val_I0 (f := fun i j => .int (i + j)) (val_I0 (f := fun i j => .int (i + j)) v1 v2) v3) val_cI (by decide)) ?_
    generalize (cell * 48271 + x3 * 69621 + x4' * 16807) % 2147483647 = n1
    have w2 : ∀ n : Int, Val (tVar 2) [some (.ref a), some (.int many), some (.int n), some (.int cell)] H2 (.int n) := fun n => val_var rfl
    have v4 : Val (tOp rMul0 (tVar 2) (cI 48271)) [some (.ref a), some (.int many), some (.int n1), some (.int cell)] H2 (.int (n1 * 48271)) := val_I (w2 n1) val_cI (mulOk_r (by decide))
    refine sq_asg (val_mod1 (val_I0 (f := fun i j => .int (i + j)) v4 val_cI) val_cI (by decide)) ?_
    generalize (n1 * 48271 + 12345) % 2147483647 = n2
    refine sq_bP (v := .int (n2 % 1000003)) rfl hH2 five (val_mod1 (w2 n2) val_cI (by decide)) ?_
    rw [put_mixed]
    refine st_ret (val_mod1 (val_I (f := fun i j => .int (i / j)) (i := n2) (val_var rfl) val_cI ⟨by decide, Nat.lt_of_lt_of_le (log2_64 (by decide)) (by decide)⟩) (val_var rfl) hm) ?_
    have q := emod_rng (i := n2) (j := 1000003) (by decide)
    exact k _ _ (emod_rng hm).1 (emod_rng hm).2 ⟨⟨y1, y2, _, x4', upd_same, r1, r2, r2b, q.1, q.2⟩, old_upd old2⟩
  have hc1 : H1 c = some (.lst (ns.map V.int)) := by rw [old1 c hca]; exact h0c
  refine sq_if (b := decide (x1 < (ns.length : Int))) (fun Q q => ?_) (fun hb2 => ?_) (fun hb2 => tail 0 x1 x2 H1 hH1 p1 p2 p2b old1)
  · refine val_bG rfl hH1 get_at _ (val_bG rfl hH1 get_cells _ ⟨_, _, rfl, .inl ⟨_, .of hc1, rfl⟩, _, _, rfl, rfl, ?_⟩)
    rw [List.length_map]
    exact q
  · have hlt : x1 < ns.length := of_decide_eq_true hb2
    obtain ⟨i, rfl⟩ : ∃ i : Nat, x1 = i := ⟨x1.toNat, by omega⟩
    have hi : i < ns.length := by omega
    have hat : atI (ns.map V.int) (i : Int) = some (.int ns[i]) := by
      have e1 : ixN (ns.map V.int).length (i : Int) = some i := by
        unfold ixN
        rw [List.length_map]
        simp [hi]
      unfold atI
      rw [e1]
      simp [hi]
    refine sq_asg (v := .int ns[i]) (fun Q q => val_bG rfl hH1 get_cells _ (val_bG rfl hH1 get_at _ (.inl ⟨c, _, _, _, rfl, rfl, .of hc1, hat, q⟩))) ?_
    refine sq_bP (v := .int (i + 1)) rfl hH1 five (val_I0 (f := fun i j => .int (i + j)) (val_bG rfl hH1 get_at) val_cI) ?_
    rw [put_at]
    have hH2 : upd H1 a (.dK (bagKvs c (i + 1) x2 x3 x4')) a = some (.dK (bagKvs c (i + 1) x2 x3 x4')) := upd_same
    have old2 := old_upd old1 (o := .dK (bagKvs c (i + 1) x2 x3 x4'))
    revert hH2 old2
    generalize upd H1 a (.dK (bagKvs c (i + 1) x2 x3 x4')) = H2
    intro hH2 old2
    refine st_ifT (b := decide ((10 : Int) ^ (18 : Int).toNat ≤ ns[i])) (val_I0 (f := fun i j => .bl (decide (j ≤ i))) (val_var rfl) (val_I (f := fun i j => .int (i ^ j.toNat)) val_cI val_cI ⟨by decide, by decide, by decide⟩)) (fun hb3 => ?_) (fun _ => tail _ _ x2 H2 hH2 (by omega) p2 p2b old2)
    have hx : (10 : Int) ^ (18 : Int).toNat ≤ ns[i] := of_decide_eq_true hb3
    have hx0 : 0 ≤ ns[i] := Int.le_trans (by decide) hx
    refine sq_bP (v := .int (ns[i] / many)) rfl hH2 five (val_I (f := fun i j => .int (i / j)) (val_var rfl) (val_var rfl) ⟨hm, hml⟩) ?_
    rw [put_rest]
    refine st_ret (val_mod1 (i := ns[i]) (val_var rfl) (val_var rfl) hm) ?_
    obtain ⟨q1, q2⟩ := big_div (m := many) (hb ns[i] (List.getElem_mem hi)) hx0 hm
    exact k _ _ (emod_rng hm).1 (emod_rng hm).2 ⟨⟨i + 1, ns[i] / many, x3, x4', upd_same, by omega, q2, q1, p3, p3b⟩, old_upd old2⟩
end
/-! ### _law_pick keeps its promise -/
def spPick : SpD := fun ds Q _ => match ds with
  | [.bag, .int m] => 0 < m ∧ m.natAbs.log2 < 9000 ∧ ∀ r : Int, 0 ≤ r → r < m → Q (.int r)
  | _ => False
theorem good_bag {G : Cw} {F : Frm} {r : Rt} {S H H' : Hp} {a c : Addr} {ns : List Int} (g : Good G F r S H) (ha : r.bag = some a) (hc : S c = some (.lst (ns.map V.int))) (hb : ∀ z ∈ ns, big z) (hn : ns.length ≤ 1000) (B : BagH H H' a c ns) : Good G F r S H' := by
  have hS : S a = none := (g.bag a ha).free
  refine ⟨fun b o e => ?_, fun b o e n => ?_, g.frz, g.ext, fun b e => ?_, g.rb, g.rF⟩
  · rw [B.old b (fun z => by rw [z, hS] at e; cases e)]
    exact g.sub b o e
  · by_cases z : b = a
    · subst z
      rcases g.rb b ha with h | h
      · exact (n h).elim
      · rw [h] at e; cases e
    · rw [B.old b z]
      exact g.keep b o e n
  · rw [ha] at e
    cases e
    obtain ⟨x1, x2, x3, x4, h1, h2, h3, h4, h5, h6⟩ := B.ex
    exact ⟨hS, c, ns, x1, x2, x3, x4, h1, hc, hb, hn, h2, h3, h4, h5, h6⟩
section
variable {P : Program} {w : World} {K : PySem.W.Frag} {mg : Str → Option Value} {base : Heap} {cls : Str → Option Addr} {flds : Str → List Str}
theorem fn_pick {st : Stmt} {f : Addr} {fd : FuncData} {k : Nat} (Fu : Fun K "_law_pick" "_law_pick" st f fd) (Sc : FnScope ["bag", "many", "number", "cell"] ["bag", "many"] (defScope st))
    (der : ∀ (cdv : Value) (A : Around) (outer : List Env) (s : Shared) (H : Hp) (E : XK), Room k (A.deeper (PyProof.Rows.envOfC "_law_pick" (defScope st) s.heap.objs.size f cdv)) →
      PSs (cxOf (L2.CX P w) P w K mg base ["bag", "many", "number", "cell"] "_law_pick" (defScope st) f cdv A outer s H E) (defBody st) (tPick K)) :
    FnOk P w K mg base (L2.CX P w) (k + 1) f fd ["bag", "many"] (liftSp ⟨K, cls, flds⟩ spPick) := by
  have args : ∀ {r S vs ds Q E}, DAts ⟨K, cls, flds⟩ r S vs ds → spPick ds Q E → ∃ a m, vs = [.ref a, .int m] ∧ r.bag = some a ∧ 0 < m ∧ m.natAbs.log2 < 9000 ∧ ∀ r : Int, 0 ≤ r → r < m → Q (.int r) := by
    intro r S vs ds Q E a q
    cases a with
    | nil => exact q.elim
    | cons h1 a =>
      cases a with
      | nil => cases h1 <;> exact q.elim
      | cons h2 a =>
        cases a with
        | cons _ _ => cases h1 <;> cases h2 <;> exact q.elim
        | nil =>
          cases h1 <;> cases h2 <;> first | exact q.elim | skip
          rename_i a hb m
          exact ⟨a, m, rfl, hb, q⟩
  refine Fu.okX Sc (fun vs H Q E ⟨r, S, ds, Qd, Xd, g, a, q, _⟩ => ?_) fun cdv A outer s H vs Q E hr ⟨r, S, ds, Qd, Xd, g, a, q, kq, kx⟩ => ?_
  · obtain ⟨_, _, e, _⟩ := args a q
    rw [e]; rfl
  obtain ⟨b, m, rfl, hb, hm, hml, q⟩ := args a q
  refine ⟨_, der cdv A outer s H E hr, ?_⟩
  obtain ⟨hS, c, ns, x1, x2, x3, x4, h1, hc, hbg, hn, h2, h3, h4, h5, h6⟩ := g.bag b hb
  have hcb : c ≠ b := fun z => by rw [z, hS] at hc; cases hc
  refine pick_run (H0 := H) (a := b) (c := c) (ns := ns) ⟨⟨x1, x2, x3, x4, h1, h2, h3, h4, h5, h6⟩, fun _ _ => rfl⟩ (fun _ z => (hcb z).elim) (g.sub _ _ hc) hcb hbg hn hm hml rfl rfl rfl fun y H' y0 y1 B => ?_
  exact kq _ _ ⟨r, S, .int y, .refl _ _, good_bag g hb hc hbg hn B, .int y, q y y0 y1⟩
end
end DL

set_option Elab.async false
set_option linter.all false
set_option maxRecDepth 100000
set_option maxHeartbeats 4000000
/-! DL11: _law_bag_of, the law's own def; comprehensions in plain Lean. -/
namespace DL
open PySem PySem.Spec L2
inductive F2 {α β : Type} (R : α → β → Prop) : List α → List β → Prop
  | nil : F2 R [] []
  | cons {x y xs ys} (h : R x y) (t : F2 R xs ys) : F2 R (x :: xs) (y :: ys)
/-- a comprehension whose turns leave the state as it was, but for its own slots -/
theorem compD_rel {g : TGd} {tt : TTd} {te : TEd} {vs : List Nat} {s0 : Sd} (f : D → D → Prop) (hs : wipeD s0 vs = s0) : ∀ (xs : List D) (Q : List D → Sd → Prop),
    (∀ x ∈ xs, ∀ Q : D → Sd → Prop, (∀ d s', f x d → wipeD s' vs = s0 → Q d s') → g x s0 fun s1 => tt s1 fun c s2 => if c = true then te s2 Q else False) →
    (∀ (g' : ∀ x s (Q Q' : Sd → Prop), (∀ s, Q s → Q' s) → g x s Q → g x s Q') (t' : ∀ s (Q Q' : Bool → Sd → Prop), (∀ b s, Q b s → Q' b s) → tt s Q → tt s Q'), (∀ ds, F2 f xs ds → Q ds s0) → compD g tt te vs xs s0 Q)
  | [], Q, _, _, _, k => k [] .nil
  | x :: xs, Q, h, g', t', k => by
    show g x s0 fun s1 => tt s1 fun c s2 => if c = true then te s2 fun d s3 => compD g tt te vs xs (wipeD s3 vs) fun ds s4 => Q (d :: ds) s4 else compD g tt te vs xs (wipeD s2 vs) Q
    have h1 := h x List.mem_cons_self (fun d s3 => compD g tt te vs xs (wipeD s3 vs) fun ds s4 => Q (d :: ds) s4) fun d s' fd e => by
      rw [e]
      exact compD_rel f hs xs _ (fun y hy => h y (List.mem_cons_of_mem _ hy)) g' t' fun ds hf => k (d :: ds) (.cons fd hf)
    refine g' _ _ _ _ (fun s1 q => t' _ _ _ (fun b s2 q => ?_) q) h1
    cases b with
    | true => exact q
    | false => exact False.elim q
theorem wipe_one {s0 : Sd} {i : Nat} : wipeD s0 [i] = sd s0 i none := rfl
theorem kName_mono {i : Nat} : ∀ x s (Q Q' : Sd → Prop), (∀ s, Q s → Q' s) → kName i x s Q → kName i x s Q' := fun _ _ _ _ h q => h _ q
theorem dYes_mono : ∀ s (Q Q' : Bool → Sd → Prop), (∀ b s, Q b s → Q' b s) → dYes s Q → dYes s Q' := fun _ _ _ h q => h _ _ q
/-- the common kind: one name, no test -/
theorem compD_one {i : Nat} {te : TEd} {s0 : Sd} (f : D → D → Prop) (hs : sd s0 i none = s0) {xs : List D} {Q : List D → Sd → Prop}
    (h : ∀ x ∈ xs, ∀ Q : D → Sd → Prop, (∀ d s', f x d → sd s' i none = s0 → Q d s') → te (sd s0 i (some x)) Q) (k : ∀ ds, F2 f xs ds → Q ds s0) : compD (kName i) dYes te [i] xs s0 Q :=
  compD_rel (vs := [i]) f (by rw [wipe_one]; exact hs) xs Q (fun x hx Q q => h x hx Q q) kName_mono dYes_mono k
theorem forall₂_map {f : D → D} : ∀ {xs ds : List D}, F2 (fun x d => d = f x) xs ds → ds = xs.map f
  | _, _, .nil => rfl
  | _, _, .cons h t => by rw [h, forall₂_map t]; rfl
theorem compD_fun {i : Nat} {te : TEd} {s0 : Sd} (f : D → D) (hs : sd s0 i none = s0) {xs : List D} {Q : List D → Sd → Prop}
    (h : ∀ x ∈ xs, ∀ Q : D → Sd → Prop, (∀ s', sd s' i none = s0 → Q (f x) s') → te (sd s0 i (some x)) Q) (k : Q (xs.map f) s0) : compD (kName i) dYes te [i] xs s0 Q :=
  compD_one (fun x d => d = f x) hs (fun x hx Q q => h x hx Q fun s' e => q _ s' rfl e) fun ds hf => by rw [forall₂_map hf]; exact k

abbrev xcOf (Xd : Str → List D → Prop) : XcD := fun c es _ => Xd c es
/-- a constant of the text -/
def Cn (K : PySem.W.Frag) (mg : Str → Option Value) (cls : Str → Option Addr) (flds : Str → List Str) (x : Str) (d : D) : Prop := ∃ v u, mg x = some u ∧ RelV v u ∧ ∀ r S, DAt ⟨K, cls, flds⟩ r S v d
theorem pd_const {G : Cw} {X : Cx} {F : Frm} {cls : Str → Option Addr} {flds : Str → List Str} {x : Str} {d : D} {pos : Pos} (h : Cn X.K X.mg cls flds x d) (hg : Gl X x) (hG : G = ⟨X.K, cls, flds⟩ := by rfl) (hd : (x == ("__debug__" : Str)) = false := by decide) : PD G F X (.Name x pos) (dC d) := by
  subst hG
  obtain ⟨v, u, hm, r, a⟩ := h
  exact pd_glob hg hm r a hd
/-! ### _law_bag_of -/
def spBagOf (K : PySem.W.Frag) : Sp := fun vs H Q E => ∃ (a : Addr) (ns : List Int), vs = [.ref a] ∧ SqL K H a (ns.map V.int) ∧ ns.length ≤ 1000 ∧ (∀ z ∈ ns, big z) ∧
  ∀ (p c : Addr) (m : Int) (H' : Hp), H' p = some (.dK (bagKvs c 0 0 m 0)) → H' c = some (.lst (ns.map V.int)) → c ≠ p → 0 ≤ m → m < 1000003 → Q (.ref p) H'
def wBag1 : TSd := dSet 1 (dC (.int 11))
def wBag2 : TSd := dFor (dSeqIt (dVar 0)) (kName 2) (dSet 1 (dOp rMod (dCB rIntT (dCons (dOp rAdd (dOp rAdd (dOp rMul (dVar 1) (dC (.int 37))) (dVar 2)) (dC (.int 5))) dNil)) (dC (.int 1000003))))
def wBag3 : TAd := dComp (dSeqIt (dVar 0)) (kName 2) dYes (dVar 2) [2]
def tBagOf (G : Cw) (F : Frm) : TS := tSeq (LS G F wBag1) (tSeq (LS G F wBag2) (tRet (tDisp [(tC (.str "cells"), fun σ H Q => ∃ F, LF G F wBag3 σ H Q), (tC (.str "at"), tC (.int 0)), (tC (.str "rest"), tC (.int 0)), (tC (.str "mixed"), tVar 1), (tC (.str "count"), tC (.int 0))])))
theorem bag_loop {ns : List Int} {R : Sd → Prop} (k : ∀ m z, 0 ≤ m → m < 1000003 → R [some (.scr ns), some (.int m), z]) : ∀ (ms : List Int) (m : Int) (z : Option D), 0 ≤ m → m < 1000003 →
    loopD (kName 2) (dSet 1 (dOp rMod (dCB rIntT (dCons (dOp rAdd (dOp rAdd (dOp rMul (dVar 1) (dC (.int 37))) (dVar 2)) (dC (.int 5))) dNil)) (dC (.int 1000003)))) { nx := R, rt := fun _ => False, bk := fun _ => False, ct := fun _ => False } (ms.map .int) [some (.scr ns), some (.int m), z]
  | [], m, z, h0, h1 => k m z h0 h1
  | x :: ms, m, z, h0, h1 => by
    have e := emod_rng (i := m * 37 + x + 5) (j := 1000003) (by decide)
    exact ⟨mulOk_r (by decide), ⟨show (0 : Int) < 1000003 by decide, bag_loop k ms _ (some (.int x)) e.1 e.2⟩⟩
theorem Rep.plain {G : Cw} {F F2 : Frm} {r : Rt} {S H : Hp} {σ : L2.St} {s : Sd} (rp : Rep G F r S H σ s) (no : ∀ i ds, gd s i ≠ some (.own ds)) : Rep G F2 r S H σ s := by
  refine ⟨rp.len, fun i => ?_, rp.dis⟩
  cases e : gd s i with
  | none => trivial
  | some d =>
    have q := rp.slot i
    rw [e] at q
    cases n : isOwn d with
    | false => exact slot_of n (slot_val q n)
    | true =>
      cases d with
      | own ds => exact (no i ds e).elim
      | _ => cases n
theorem bag_of_run {G : Cw} {F : Frm} {r : Rt} {S H : Hp} {a : Addr} {ns : List Int} {D : Ends} (g : Good G F r S H) (hS : SqL G.K S a (ns.map V.int)) (hb : ∀ z ∈ ns, big z) (hn : ns.length ≤ 1000)
    (k : ∀ (p c : Addr) (m : Int) (H' : Hp), H' p = some (.dK (bagKvs c 0 0 m 0)) → H' c = some (.lst (ns.map V.int)) → c ≠ p → 0 ≤ m → m < 1000003 → D.rt (.ref p) H') : tBagOf G F D [some (.ref a), none, none] H := by
  have rp : Rep G F r S H [some (.ref a), none, none] [some (.scr ns), none, none] := by
    refine ⟨rfl, fun i => ?_, fun i j ds es l hij e1 e2 e3 => ?_⟩
    · match i with
      | 0 => exact ⟨.ref a, rfl, .scr hS⟩
      | 1 => exact trivial
      | 2 => exact trivial
      | i + 3 => exact trivial
    · match i with
      | 0 => cases e1
      | 1 => cases e1
      | 2 => cases e1
      | i + 3 => cases e1
  have g0 : Good G F r S H := g
  -- mixed = 11; the loop
  refine LS.use g0 rp (w := wBag1) (Ed := { nx := fun s => s = [some (.scr ns), some (.int 11), none], rt := fun _ => False, bk := fun _ => False, ct := fun _ => False }) rfl ⟨fun σ1 H1 ⟨r1, S1, s1, e1, g1, rp1, q1⟩ => ?_, fun _ _ ⟨_, _, _, _, _, _, z⟩ => z.elim, fun _ _ ⟨_, _, _, _, _, _, z⟩ => z.elim, fun _ _ ⟨_, _, _, _, _, _, z⟩ => z.elim⟩
  subst q1
  refine LS.use g1 rp1 (w := wBag2) (Ed := { nx := fun s => ∃ m z, 0 ≤ m ∧ m < 1000003 ∧ s = [some (.scr ns), some (.int m), z], rt := fun _ => False, bk := fun _ => False, ct := fun _ => False })
    (bag_loop (fun m z h0 h1 => ⟨m, z, h0, h1, rfl⟩) ns 11 none (by decide) (by decide)) ⟨fun σ2 H2 ⟨r2, S2, s2, e2, g2, rp2, q2⟩ => ?_, fun _ _ ⟨_, _, _, _, _, _, z⟩ => z.elim, fun _ _ ⟨_, _, _, _, _, _, z⟩ => z.elim, fun _ _ ⟨_, _, _, _, _, _, z⟩ => z.elim⟩
  obtain ⟨m, z, m0, m1, rfl⟩ := q2
  intro p hp
  have gN := g2.gro (.loose (o := .dK []) g2.sub hp)
  have rN := (rp2.gro (.loose (o := .dK []) g2.sub hp)).forget (i := 2)
  have hpH : upd H2 p (.dK []) p = some (.dK []) := upd_same
  have nb : r2.bag ≠ some p := fun z => by
    obtain ⟨_, _, _, _, _, _, _, q, _⟩ := g2.bag p z
    rw [hp] at q; cases q
  revert gN rN hpH
  generalize upd H2 p (.dK []) = H3
  intro gN rN hpH
  have rN2 : Rep G ⟨H3, S2, r2⟩ r2 S2 H3 σ2 [some (.scr ns), some (.int m), none] := rN.plain fun i ds => by
    match i with
    | 0 => exact fun z => by cases z
    | 1 => exact fun z => by cases z
    | 2 => exact fun z => by cases z
    | i + 3 => exact fun z => by cases z
  refine ⟨⟨H3, S2, r2⟩, r2, S2, _, fun ds s => ds = ns.map .int ∧ gd s 1 = some (.int m), gN.start, rN2, ⟨by rw [List.length_map]; exact Nat.le_trans hn (by decide), compD_fun (fun x => x) rfl (fun x hx Q q => ?_) ⟨by rw [List.map_id'' (fun _ => rfl)], rfl⟩⟩, ?_⟩
  · obtain ⟨n, _, rfl⟩ := List.mem_map.mp hx
    exact q _ rfl
  rintro v H4 ⟨r4, S4, s4, l, ds, e4, g4, rp4, rfl, o4, no4, rfl, hm4⟩
  obtain ⟨vs, hl, hz, al⟩ := o4.ex
  have hvs : vs = ns.map V.int := by
    have key : ∀ (ns : List Int) (vs : List V), DAts G r4 S4 vs (ns.map DL.D.int) → vs = ns.map V.int := by
      intro ns
      induction ns with
      | nil => intro vs h; cases h; rfl
      | cons n ns ih =>
        intro vs h
        cases h with
        | cons h1 h2 =>
          cases h1
          rw [ih _ h2]; rfl
    exact key ns vs al
  subst hvs
  have hp4 : H4 p = some (.dK []) := g4.keep p _ hpH nb
  have hlp : l ≠ p := fun z => by
    have := o4.f
    rw [z] at this
    rw [show (⟨H3, S2, r2⟩ : Frm).H p = H3 p from rfl, hpH] at this
    cases this
  obtain ⟨u, hu, au⟩ := rp4.get hm4 rfl
  cases au
  refine ⟨_, hu, hp4, bagKvs l 0 0 m 0, rfl, by show 5 ≤ 15; decide, ?_⟩
  exact k p l m _ (by rw [upd_same]; rfl) (by rw [upd_ne hlp]; exact hl) hlp m0 m1
section
variable {P : Program} {w : World} {K : PySem.W.Frag} {mg : Str → Option Value} {base : Heap} {cls : Str → Option Addr} {flds : Str → List Str}
/-- the frozen part: one object of the heap -/
def only1 (H : Hp) (a : Addr) : Hp := fun b => if b = a then H b else none
theorem only1_sub {H : Hp} {a : Addr} : Same (only1 H a) H := fun b o e => by
  unfold only1 at e
  by_cases z : b = a
  · rw [if_pos z] at e; exact e
  · rw [if_neg z] at e; cases e
theorem good_only {G : Cw} {H : Hp} {a : Addr} : Good G ⟨H, only1 H a, ⟨none⟩⟩ ⟨none⟩ (only1 H a) H :=
  ⟨only1_sub, fun _ _ e _ => e, fun _ _ _ => rfl, .refl _, fun _ e => (by cases e), fun _ e => (by cases e), fun _ e => e⟩
theorem only1_seq {H : Hp} {a : Addr} {xs : List V} (h : SqL K H a xs) : SqL K (only1 H a) a xs := by
  have e : only1 H a a = H a := by unfold only1; rw [if_pos rfl]
  rcases h with (h | ⟨o, h⟩) | h
  · exact .inl (.inl (by rw [e]; exact h))
  · exact .inl (.inr ⟨o, by rw [e]; exact h⟩)
  · exact .inr h
theorem fn_bagOf {st : Stmt} {f : Addr} {fd : FuncData} {k : Nat} (Fu : Fun K "_law_bag_of" "_law_bag_of" st f fd) (Sc : FnScope ["script", "mixed", "cell"] ["script"] (defScope st))
    (der : ∀ (Fr : Frm) (cdv : Value) (A : Around) (outer : List Env) (s : Shared) (H : Hp) (E : XK), Room k (A.deeper (PyProof.Rows.envOfC "_law_bag_of" (defScope st) s.heap.objs.size f cdv)) → Takes (cxOf (L2.CX P w) P w K mg base ["script", "mixed", "cell"] "_law_bag_of" (defScope st) f cdv A outer s H E) (LW ⟨K, cls, flds⟩ Fr noX) →
      PSs (cxOf (L2.CX P w) P w K mg base ["script", "mixed", "cell"] "_law_bag_of" (defScope st) f cdv A outer s H E) (defBody st) (tBagOf ⟨K, cls, flds⟩ Fr)) :
    FnOk P w K mg base (L2.CX P w) (k + 1) f fd ["script"] (spBagOf K) := by
  refine Fu.okX Sc (fun vs H Q E ⟨a, ns, e, _⟩ => by rw [e]; rfl) fun cdv A outer s H vs Q E hr ⟨a, ns, e, hs, hn, hb, q⟩ => ?_
  subst e
  refine ⟨_, der ⟨H, only1 H a, ⟨none⟩⟩ cdv A outer s H E hr takesNo, ?_⟩
  exact bag_of_run good_only (only1_seq hs) hb hn q

/-! ### the law's own def -/
def spLaw (K : PySem.W.Frag) : Sp := fun vs H Q _ => ∃ (a : Addr) (ns : List Int), vs = [.ref a] ∧ SqL K H a (ns.map V.int) ∧ ns.length ≤ 1000 ∧ (∀ z ∈ ns, big z) ∧ ∀ H', Q (.bl true) H'
theorem good_two {G : Cw} {H : Hp} {p c : Addr} {m : Int} {ns : List Int} (hp : H p = some (.dK (bagKvs c 0 0 m 0))) (hc : H c = some (.lst (ns.map V.int))) (hcp : c ≠ p) (m0 : 0 ≤ m) (m1 : m < 1000003) (hn : ns.length ≤ 1000) (hb : ∀ z ∈ ns, big z) :
    Good G ⟨H, only1 H c, ⟨some p⟩⟩ ⟨some p⟩ (only1 H c) H := by
  refine ⟨only1_sub, fun _ _ e _ => e, fun _ _ _ => rfl, .refl _, fun b e => ?_, fun _ e => .inl e, fun _ e => e⟩
  cases e
  refine ⟨by unfold only1; rw [if_neg (Ne.symm hcp)], c, ns, 0, 0, m, 0, hp, by unfold only1; rw [if_pos rfl]; exact hc, hb, hn, Int.le_refl _, Int.le_refl _, ?_, m0, m1⟩
  exact Nat.two_pow_pos _
theorem fn_law {st : Stmt} {rest : List Stmt} {f : Addr} {fd : FuncData} {k i : Nat} {N : List Str} {x : Str} {fb : Addr} {fdb : FuncData} {kb : Nat} {w1 : TSd} {p0 p1 p2 p3 p4 : Pos} (Fu : Fun K x x st f fd) (Sc : FnScope N ["script"] (defScope st)) (h0 : N[0]? = some ("script" : Str))
    (hst : defBody st = .Assign [.Name "bag" p0] (.Call (.Name "_law_bag_of" p1) [.Name "script" p2] [] p3) p4 :: rest) (hi : N[i]? = some ("bag" : Str)) (hi0 : i ≠ 0) (hl : Loc (defScope st) "bag") (hls : Vis (defScope st) "script") (hgb : (defScope st).names.lookup ("_law_bag_of" : Str) = some .globalImplicit)
    (B : FnOk P w K mg base (L2.CX P w) kb fb fdb ["script"] (spBagOf K)) (hkb : kb ≤ k) (hm : mg "_law_bag_of" = some (.ref fb)) (hk : PySem.W.keepIn K (.ref fb) = true) (hbd : Binds K fdb ["script"] [])
    (der : ∀ (Fr : Frm) (cdv : Value) (A : Around) (outer : List Env) (s : Shared) (H : Hp) (E : XK), Room k (A.deeper (PyProof.Rows.envOfC x (defScope st) s.heap.objs.size f cdv)) →
      PDSs ⟨K, cls, flds⟩ Fr (cxOf (L2.CX P w) P w K mg base N x (defScope st) f cdv A outer s H E) rest w1)
    (rd : w1 { nx := fun _ => (DL.D.non = DL.D.bl true), rt := fun d => d = .bl true, bk := fun _ => False, ct := fun _ => False } (sd (List.replicate N.length none) i (some .bag))) :
    FnOk P w K mg base (L2.CX P w) (k + 1) f fd ["script"] (spLaw K) := by
  refine Fu.okX Sc (fun vs H Q E ⟨a, ns, e, _⟩ => by rw [e]; rfl) fun cdv A outer s H vs Q E hr ⟨a, ns, e, hs, hn, hb, q⟩ => ?_
  subst e
  rw [hst]
  refine ⟨tSeq (tAsg (tCall (spBagOf K) [] (fun _ _ _ => False) (tCons (tVar 0) tNil)) (gName i)) (fun D σ H => ∃ Fr, LS ⟨K, cls, flds⟩ Fr w1 D σ H), pss_cons (ps_set Sc.nd hi hl (pe_call B (hr.mono hkb) hgb hm hk hbd .nil passL (pa_cons (pe_var h0 hls) pa_nil)) (hf := .inl rfl)) ⟨fun pins s' σ' H' D I ⟨Fr, h⟩ => (der Fr cdv A outer s H E hr).ps.run pins s' σ' H' D I h⟩, ?_⟩
  have hN : 0 < N.length := by
    cases N with
    | nil => cases h0
    | cons _ _ => exact Nat.succ_pos _
  refine ⟨.ref a, ?_, a, ns, rfl, hs, hn, hb, fun p c m H' hp hc hcp m0 m1 => ?_⟩
  · unfold L2.start; rfl
  have hg := good_two (G := ⟨K, cls, flds⟩) hp hc hcp m0 m1 hn hb
  refine ⟨⟨H', only1 H' c, ⟨some p⟩⟩, ⟨some p⟩, only1 H' c, _, _, hg, ?_, rd, ⟨fun _ _ ⟨_, _, _, _, _, _, z⟩ => (by cases (show DL.D.non = DL.D.bl true from z)), fun v H2 ⟨_, _, d, _, _, ad, z⟩ => ?_, fun _ _ ⟨_, _, _, _, _, _, z⟩ => z.elim, fun _ _ ⟨_, _, _, _, _, _, z⟩ => z.elim⟩⟩
  · refine Rep.set ⟨?_, fun j => ?_, fun j l ds es m hjl e1 => ?_⟩ (.bag rfl)
    · unfold L2.start; simp; omega
    · have e : gd (List.replicate N.length none) j = none := by
        rw [gd_eq, List.getElem?_replicate]
        split <;> rfl
      rw [e]; trivial
    · rw [gd_eq, List.getElem?_replicate] at e1
      split at e1 <;> cases e1
  · have z' : d = .bl true := z
    subst z'
    cases ad
    exact q H2
end
section
variable {P : Program} {w : World} {K : PySem.W.Frag} {mg : Str → Option Value} {base : Heap} {cls : Str → Option Addr} {flds : Str → List Str}
/-- a def's body from its derivation and reading -/
theorem bodyD {qual : Str} {st : Stmt} {f : Addr} {N : List Str} {k : Nat} {sp : SpD} (t : (Str → List D → Prop) → TSd)
    (der : ∀ (Fr : Frm) (Xd : Str → List D → Prop) (cdv : Value) (A : Around) (outer : List Env) (s : Shared) (H : Hp) (E : XK), Room k (A.deeper (PyProof.Rows.envOfC qual (defScope st) s.heap.objs.size f cdv)) →
      Takes (cxOf (L2.CX P w) P w K mg base N qual (defScope st) f cdv A outer s H E) (LW ⟨K, cls, flds⟩ Fr fun c es _ => Xd c es) → PDSs ⟨K, cls, flds⟩ Fr (cxOf (L2.CX P w) P w K mg base N qual (defScope st) f cdv A outer s H E) (defBody st) (t Xd))
    (rd : ∀ ds Qd Xd, sp ds Qd Xd → t Xd { nx := fun _ => Qd .non, rt := Qd, bk := fun _ => False, ct := fun _ => False } (startD N.length ds))
    (cdv : Value) (A : Around) (outer : List Env) (s : Shared) (H : Hp) (vs : List V) (Q : VK) (E : XK) (hr : Room k (A.deeper (PyProof.Rows.envOfC qual (defScope st) s.heap.objs.size f cdv))) (h : liftSp ⟨K, cls, flds⟩ sp vs H Q E) :
    ∃ t, PSs (cxOf (L2.CX P w) P w K mg base N qual (defScope st) f cdv A outer s H E) (defBody st) t ∧ t { nx := fun _ H' => Q .non H', rt := Q } (L2.start N vs) H := by
  obtain ⟨r, S, ds, Qd, Xd, g, a, q, kq, kx⟩ := h
  refine ⟨_, (der ⟨H, S, r⟩ Xd cdv A outer s H E hr ?_).ps, r, S, startD N.length ds, _, g, rep_start a, rd ds Qd Xd q, ⟨fun σ' H' ⟨r', S', s', e', g', rp', q'⟩ => kq _ _ ⟨r', S', .non, e', g', .non, q'⟩, kq, fun σ' H' ⟨_, _, _, _, _, _, q'⟩ => q'.elim, fun σ' H' ⟨_, _, _, _, _, _, q'⟩ => q'.elim⟩⟩
  refine (takes_of (E := E) rfl rfl rfl rfl).imp fun c d σ H' h => ?_
  obtain ⟨r', S', s', c', C, dx, ws, es, h1, h2, h3, g', rp', h4, h5, h6, h7⟩ := h
  exact kx _ _ _ ⟨r', S', c', C, dx, ws, es, h1, h2, h3, Ext.after g', g', h4, h5, h6, h7⟩
/-- .. of a def with defaults -/
theorem fnD_dfl {x qual : Str} {st : Stmt} {f : Addr} {fd : FuncData} {N ps : List Str} {dvs : List V} {kws : List (Str × V)} {k : Nat} {sp : SpD} (Fu : FunD K x qual (defArgs st) (defBody st) (defScope st) dvs kws f fd) (Sc : FnScope N ps (defScope st)) (len : ∀ ds Q E, sp ds Q E → ds.length = ps.length)
    (t : (Str → List D → Prop) → TSd)
    (der : ∀ (Fr : Frm) (Xd : Str → List D → Prop) (cdv : Value) (A : Around) (outer : List Env) (s : Shared) (H : Hp) (E : XK), Room k (A.deeper (PyProof.Rows.envOfC qual (defScope st) s.heap.objs.size f cdv)) →
      Takes (cxOf (L2.CX P w) P w K mg base N qual (defScope st) f cdv A outer s H E) (LW ⟨K, cls, flds⟩ Fr fun c es _ => Xd c es) → PDSs ⟨K, cls, flds⟩ Fr (cxOf (L2.CX P w) P w K mg base N qual (defScope st) f cdv A outer s H E) (defBody st) (t Xd))
    (rd : ∀ ds Qd Xd, sp ds Qd Xd → t Xd { nx := fun _ => Qd .non, rt := Qd, bk := fun _ => False, ct := fun _ => False } (startD N.length ds)) : FnOk P w K mg base (L2.CX P w) (k + 1) f fd ps (liftSp ⟨K, cls, flds⟩ sp) :=
  Fu.ok Sc (fun vs H Q E ⟨r, S, ds, Qd, Xd, g, a, q, _⟩ => by rw [a.length]; exact len _ _ _ q) (bodyD t der rd)
/-- .. of def f(*v) -/
theorem calD_star {x qual : Str} {st : Stmt} {f : Addr} {N : List Str} {pv : Str} {k : Nat} {sp : SpD} {dV kV doc pm cdv ct oc : Value} {an od : Option Addr} {osl : Array (Option Value)}
    (lk : K.lookup f = some ⟨oc, od, .func (PySem.W.fnOf x qual (defArgs st) (defBody st) (defScope st) dV kV doc pm an cdv ct), osl⟩) (hcd : PySem.W.codeIn K cdv qual = true) (hm : mg x = some (.ref f)) (hk : PySem.W.keepIn K (.ref f) = true) (Sc : FnScope N [pv] (defScope st))
    (hb : ∀ us rest : List Value, us.length = ([] : List Str).length → bindArgs (PySem.W.fnOf x qual (defArgs st) (defBody st) (defScope st) dV kV doc pm an cdv ct) ⟨us ++ rest, []⟩ = (newTuple rest >>= fun t => pure (([] : List Str).zip us ++ [(pv, t)])))
    (t : (Str → List D → Prop) → TSd)
    (der : ∀ (Fr : Frm) (Xd : Str → List D → Prop) (cdv : Value) (A : Around) (outer : List Env) (s : Shared) (H : Hp) (E : XK), Room k (A.deeper (PyProof.Rows.envOfC qual (defScope st) s.heap.objs.size f cdv)) →
      Takes (cxOf (L2.CX P w) P w K mg base N qual (defScope st) f cdv A outer s H E) (LW ⟨K, cls, flds⟩ Fr fun c es _ => Xd c es) → PDSs ⟨K, cls, flds⟩ Fr (cxOf (L2.CX P w) P w K mg base N qual (defScope st) f cdv A outer s H E) (defBody st) (t Xd))
    (rd : ∀ ds Qd Xd, sp ds Qd Xd → t Xd { nx := fun _ => Qd .non, rt := Qd, bk := fun _ => False, ct := fun _ => False } (startD N.length ds)) : Cal P w K mg base cls flds (k + 1) x (fun ds Q E => ds.length ≤ sizeLine ∧ sp [.tup ds] Q E) :=
  Cal.star (StX.fn_star (ps := []) (pv := pv) lk hcd Sc StX.cxUp hb fun A outer s H vs Q E hr h => bodyD t der rd cdv A outer s H vs Q E hr h) hm hk
end
end DL

set_option Elab.async false
set_option linter.all false
set_option maxRecDepth 100000
set_option maxHeartbeats 4000000
/-! DL12: facts in plain Lean. -/
namespace DL
open PySem PySem.Spec L2
@[simp] theorem kit_nn_int : kitB "NoneType" "int" = some false := by decide +kernel
@[simp] theorem kit_nn_bool : kitB "NoneType" "bool" = some false := by decide +kernel
@[simp] theorem kit_nn_str : kitB "NoneType" "str" = some false := by decide +kernel
@[simp] theorem kit_nn_tuple : kitB "NoneType" "tuple" = some false := by decide +kernel
@[simp] theorem kit_nn_list : kitB "NoneType" "list" = some false := by decide +kernel
@[simp] theorem kit_bool_int : kitB "bool" "int" = some true := by decide +kernel
@[simp] theorem kit_bool_bool : kitB "bool" "bool" = some true := by decide +kernel
@[simp] theorem kit_bool_str : kitB "bool" "str" = some false := by decide +kernel
@[simp] theorem kit_bool_tuple : kitB "bool" "tuple" = some false := by decide +kernel
@[simp] theorem kit_bool_list : kitB "bool" "list" = some false := by decide +kernel
@[simp] theorem kit_int_int : kitB "int" "int" = some true := by decide +kernel
@[simp] theorem kit_int_bool : kitB "int" "bool" = some false := by decide +kernel
@[simp] theorem kit_int_str : kitB "int" "str" = some false := by decide +kernel
@[simp] theorem kit_int_tuple : kitB "int" "tuple" = some false := by decide +kernel
@[simp] theorem kit_int_list : kitB "int" "list" = some false := by decide +kernel
@[simp] theorem kit_str_int : kitB "str" "int" = some false := by decide +kernel
@[simp] theorem kit_str_bool : kitB "str" "bool" = some false := by decide +kernel
@[simp] theorem kit_str_str : kitB "str" "str" = some true := by decide +kernel
@[simp] theorem kit_str_tuple : kitB "str" "tuple" = some false := by decide +kernel
@[simp] theorem kit_str_list : kitB "str" "list" = some false := by decide +kernel
@[simp] theorem kit_tuple_int : kitB "tuple" "int" = some false := by decide +kernel
@[simp] theorem kit_tuple_bool : kitB "tuple" "bool" = some false := by decide +kernel
@[simp] theorem kit_tuple_str : kitB "tuple" "str" = some false := by decide +kernel
@[simp] theorem kit_tuple_tuple : kitB "tuple" "tuple" = some true := by decide +kernel
@[simp] theorem kit_tuple_list : kitB "tuple" "list" = some false := by decide +kernel
@[simp] theorem kit_list_int : kitB "list" "int" = some false := by decide +kernel
@[simp] theorem kit_list_bool : kitB "list" "bool" = some false := by decide +kernel
@[simp] theorem kit_list_str : kitB "list" "str" = some false := by decide +kernel
@[simp] theorem kit_list_tuple : kitB "list" "tuple" = some false := by decide +kernel
@[simp] theorem kit_list_list : kitB "list" "list" = some true := by decide +kernel
theorem own_non : isOwn .non = false := by unfold isOwn; rfl
theorem own_bl {b : Bool} : isOwn (.bl b) = false := by unfold isOwn; rfl
theorem own_int {i : Int} : isOwn (.int i) = false := by unfold isOwn; rfl
theorem own_str {x : Str} : isOwn (.str x) = false := by unfold isOwn; rfl
theorem own_tup {xs : List D} : isOwn (.tup xs) = false := by unfold isOwn; rfl
theorem own_lst {xs : List D} : isOwn (.lst xs) = false := by unfold isOwn; rfl
theorem own_bag : isOwn .bag = false := by unfold isOwn; rfl
theorem own_scr {ns : List Int} : isOwn (.scr ns) = false := by unfold isOwn; rfl
theorem own_ins {c : Str} {fs : List D} : isOwn (.ins c fs) = false := by unfold isOwn; rfl
theorem own_exc {a C dx : Addr} {c : Str} {fs : List D} : isOwn (.exc a C dx c fs) = false := by unfold isOwn; rfl
/-! ### what may be compared -/
theorem cmp_int {i : Int} : cmpOk (.int i) := ⟨rfl, Nat.zero_le _⟩
theorem cmp_bl {i : Bool} : cmpOk (.bl i) := ⟨rfl, Nat.zero_le _⟩
theorem cmp_non : cmpOk .non := ⟨rfl, Nat.zero_le _⟩
theorem cmp_str {x : Str} (h : strOkD x = true) : cmpOk (.str x) := ⟨h, Nat.zero_le _⟩
theorem eq_int {i j : Int} : eqB (.int i) (.int j) = decide (i = j) := by
  show (i == j) = decide (i = j)
  by_cases h : i = j <;> simp [h]
/-! ### texts -/
theorem strOk_app {a b : Str} : strOkD (a ++ b) = (strOkD a && strOkD b) := by
  show ((a ++ b).cps.all (· < 0x110000)) = (a.cps.all (· < 0x110000) && b.cps.all (· < 0x110000))
  rw [Str.cps_append, Array.all_append]
theorem strOk_one {c : Nat} (h : c < 0x110000) : strOkD ⟨#[c]⟩ = true := by
  show ((#[c] : Array Nat).all (· < 0x110000)) = true
  simp [h]
theorem join_none : ∀ ys : List Str, (∀ y ∈ ys, y.length = 1 ∧ strOkD y = true) → (Txt.join "" ys).length = ys.length ∧ strOkD (Txt.join "" ys) = true := by
  intro ys
  rw [TL.join_eq]
  induction ys with
  | nil => intro _; exact ⟨rfl, by decide +kernel⟩
  | cons x r ih =>
    intro h
    obtain ⟨h1, h2⟩ := h x List.mem_cons_self
    have ih := ih fun y hy => h y (List.mem_cons_of_mem _ hy)
    cases r with
    | nil => exact ⟨h1, h2⟩
    | cons z r =>
      have e0 : (Str.ofString "").length = 0 := by decide
      have e1 : strOkD (Str.ofString "") = true := by decide +kernel
      show (x ++ ("" : Str) ++ Str.join "" (z :: r)).length = _ ∧ strOkD (x ++ ("" : Str) ++ Str.join "" (z :: r)) = true
      rw [Str.length_append, Str.length_append, strOk_app, strOk_app, h1, h2, ih.1, ih.2, e0, e1]
      exact ⟨by rw [List.length_cons, List.length_cons, List.length_cons]; omega, rfl⟩
theorem asStrs_map : ∀ ys : List Str, asStrs (ys.map .str) = some ys
  | [] => rfl
  | y :: ys => by rw [List.map_cons, asStrs, asStrs_map ys]; rfl
theorem F2_str {R : Str → Prop} {xs ds : List D} (h : F2 (fun _ d => ∃ y, d = .str y ∧ R y) xs ds) : ∃ ys : List Str, ds = ys.map .str ∧ (∀ y ∈ ys, R y) ∧ ys.length = xs.length := by
  induction h with
  | nil => exact ⟨[], rfl, fun _ h => by simp at h, rfl⟩
  | @cons x d xs ds h t ih =>
    obtain ⟨y, rfl, ry⟩ := h
    obtain ⟨ys, rfl, hr, hl⟩ := ih
    exact ⟨y :: ys, rfl, fun z hz => (List.mem_cons.mp hz).elim (fun e => by rw [e]; exact ry) (hr z), by simp [hl]⟩
/-- a comprehension with a test -/
theorem compD_filt {i : Nat} {te : TEd} {tt : TTd} {s0 : Sd} (p : D → Bool) (f : D → D) (hs : sd s0 i none = s0) : ∀ {xs : List D} {Q : List D → Sd → Prop},
    (∀ x ∈ xs, ∀ QT : Bool → Sd → Prop, (∀ s', sd s' i none = s0 → (p x = true → ∀ Q : D → Sd → Prop, (∀ s2, sd s2 i none = s0 → Q (f x) s2) → te s' Q) → QT (p x) s') → tt (sd s0 i (some x)) QT) → Q ((xs.filter p).map f) s0 → compD (kName i) tt te [i] xs s0 Q
  | [], Q, _, k => k
  | x :: xs, Q, h, k => by
    show tt (sd s0 i (some x)) fun c s2 => if c = true then te s2 fun d s3 => compD (kName i) tt te [i] xs (sd s3 i none) fun ds s4 => Q (d :: ds) s4 else compD (kName i) tt te [i] xs (sd s2 i none) Q
    refine h x List.mem_cons_self _ fun s' hs' hte => ?_
    have rec' := fun Q k => compD_filt (xs := xs) (Q := Q) p f hs (fun y hy => h y (List.mem_cons_of_mem _ hy)) k
    cases e : p x with
    | true =>
      rw [if_pos rfl]
      refine hte e _ fun s2 hs2 => ?_
      rw [hs2]
      refine rec' _ ?_
      rw [List.filter_cons_of_pos e, List.map_cons] at k
      exact k
    | false =>
      rw [if_neg (by decide), hs']
      refine rec' _ ?_
      rw [List.filter_cons_of_neg (by rw [e]; decide)] at k
      exact k
/-! ### gcd, lowest terms -/
def gcdI (a b : Int) : Int := (Int.gcd a b : Nat)
theorem gcdI_pos {a b : Int} (h : 0 < b) : 0 < gcdI a b := by
  unfold gcdI
  have : Int.gcd a b ≠ 0 := fun z => by
    have := (Int.gcd_eq_zero_iff.mp z).2
    omega
  omega
theorem gcdI_le {a b : Int} (h : 0 < b) : gcdI a b ≤ b := by
  unfold gcdI
  exact Int.le_of_dvd h (Int.gcd_dvd_right _ _)
theorem gcdI_neg {a b : Int} : gcdI (-a) b = gcdI a b := by
  unfold gcdI
  rw [Int.neg_gcd]
theorem gcdI_scale {a b k : Int} (h : 0 < k) : gcdI (a * k) (b * k) = gcdI a b * k := by
  unfold gcdI
  rw [Int.gcd_mul_right]
  have : (k.natAbs : Int) = k := Int.natAbs_of_nonneg (by omega)
  rw [Int.natCast_mul, this]
theorem gcdI_step {a b : Int} (ha : 0 ≤ a) (hb : 0 < b) : gcdI b (a % b) = gcdI a b := by
  unfold gcdI
  obtain ⟨m, rfl⟩ := Int.eq_ofNat_of_zero_le ha
  obtain ⟨n, rfl⟩ := Int.eq_ofNat_of_zero_le (Int.le_of_lt hb)
  show ((Int.gcd (n : Int) ((m : Int) % (n : Int)) : Nat) : Int) = _
  rw [← Int.natCast_emod, Int.gcd_natCast_natCast, Int.gcd_natCast_natCast, Nat.gcd_comm, ← Nat.gcd_rec, Nat.gcd_comm]
theorem gcdI_abs {a b : Int} : gcdI (if a < 0 then -a else a) b = gcdI a b := by
  split
  · exact gcdI_neg
  · rfl
theorem gcdI_zero {a : Int} (h : 0 ≤ a) : gcdI a 0 = a := by
  unfold gcdI
  rw [Int.gcd_zero_right] <;> omega
/-- t / b in lowest terms, b above 0 -/
def rOf (t b : Int) : D := .tup [.int (t / gcdI t b), .int (b / gcdI t b)]
theorem rOf_scale {t b k : Int} (hb : 0 < b) (h : 0 < k) : rOf (t * k) (b * k) = rOf t b := by
  unfold rOf
  rw [gcdI_scale h, Int.mul_ediv_mul_of_pos_left _ _ h, Int.mul_ediv_mul_of_pos_left _ _ h]
theorem rOf_eq {t b t' b' : Int} (hb : 0 < b) (hb' : 0 < b') (e : t * b' = t' * b) : rOf t b = rOf t' b' := by
  rw [← rOf_scale hb hb', ← rOf_scale (t := t') hb' hb, e, Int.mul_comm b b']
theorem rOf_self {p q : Int} (h : gcdI p q = 1) : rOf p q = .tup [.int p, .int q] := by
  unfold rOf
  rw [h, Int.ediv_one, Int.ediv_one]
/-- what a ratio in lowest terms is -/
theorem rOf_is {t b : Int} (hb : 0 < b) : ∃ p q : Int, rOf t b = .tup [.int p, .int q] ∧ 0 < q ∧ gcdI p q = 1 ∧ p * b = t * q ∧ q ≤ b ∧ p.natAbs ≤ t.natAbs := by
  have hg := gcdI_pos (a := t) hb
  have e1 : t / gcdI t b * gcdI t b = t := Int.ediv_mul_cancel (by unfold gcdI; exact Int.gcd_dvd_left _ _)
  have e2 : b / gcdI t b * gcdI t b = b := Int.ediv_mul_cancel (by unfold gcdI; exact Int.gcd_dvd_right _ _)
  refine ⟨_, _, rfl, ?_, ?_, ?_, ?_, ?_⟩
  · exact Int.ediv_pos_of_pos_of_dvd hb (by omega) (by unfold gcdI; exact Int.gcd_dvd_right _ _)
  · have h := gcdI_scale (a := t / gcdI t b) (b := b / gcdI t b) hg
    rw [e1, e2] at h
    have h2 : gcdI t b * 1 = gcdI t b * gcdI (t / gcdI t b) (b / gcdI t b) := by rw [Int.mul_one, Int.mul_comm]; exact h
    exact (Int.eq_of_mul_eq_mul_left (by omega) h2).symm
  · have h1 : t / gcdI t b * b = t / gcdI t b * (b / gcdI t b * gcdI t b) := by rw [e2]
    have h2 : t * (b / gcdI t b) = (t / gcdI t b * gcdI t b) * (b / gcdI t b) := by rw [e1]
    rw [h1, h2, Int.mul_assoc, Int.mul_comm (gcdI t b)]
  · exact Int.ediv_le_self _ (by omega)
  · exact Int.natAbs_ediv_le_natAbs _ _
end DL

set_option Elab.async false
set_option linter.all false
set_option maxRecDepth 100000
set_option maxHeartbeats 4000000
/-! DL13: readings run from the outside in: equations, and congruences that keep simp out of what comes later. -/
namespace DL
open PySem PySem.Spec
open L2 (atI cutS kitB ixN)
variable {w w1 w2 : TSd} {E : Endd} {s s' : Sd} {t ta tb tc : TEd} {u u1 u2 : TTd} {tr : TAd} {i j : Nat} {Q : D → Sd → Prop} {QT : Bool → Sd → Prop} {QA : List D → Sd → Prop} {QS : Sd → Prop} {K : D → Prop} {A B : Prop}
/-! ### stuck places -/
/-- a mark: what it marks, simp lets stand (a later argument's type leans on it) -/
structure Hide {α : Type} (a : α) : Type where
def ifD (c : Bool) (A B : Prop) (h1 : Hide A := ⟨⟩) (h2 : Hide B := ⟨⟩) : Prop := if c = true then A else B
def bD (d : D) (Q : Bool → Prop) (h1 : Hide Q := ⟨⟩) : Prop := match d with | .bl k => Q k | _ => False
def iD (d : D) (Q : Int → Prop) (h1 : Hide Q := ⟨⟩) : Prop := match d with | .int k => Q k | _ => False
def strD (d : D) (Q : Str → Prop) (h1 : Hide Q := ⟨⟩) : Prop := match d with | .str k => Q k | _ => False
def stepD (s : Sd) (K : Sd → Prop) (h1 : Hide K := ⟨⟩) : Prop := K s
def callD (sp : SpD) (ds : List D) (Q : D → Prop) (X : Str → List D → Prop) (h1 : Hide Q := ⟨⟩) (h2 : Hide X := ⟨⟩) : Prop := sp ds Q X
def op2 (rD : R2d) (x y : D) (Q : D → Prop) (h1 : Hide Q := ⟨⟩) : Prop := rD x y Q
def opL (rD : RLd) (xs : List D) (Q : D → Prop) (h1 : Hide Q := ⟨⟩) : Prop := rD xs Q
def optD {α : Type} (o : Option α) (Q : α → Prop) (h1 : Hide Q := ⟨⟩) : Prop := match o with | some d => Q d | none => False
def seqD (d : D) (Q : List D → Prop) (h1 : Hide Q := ⟨⟩) : Prop := match d with | .lst xs => Q xs | .tup xs => Q xs | .str z => Q (signs z) | .scr ns => Q (ns.map .int) | _ => False
def varH (o : Option D) (i : Nat) (s : Sd) (Q : D → Sd → Prop) (h1 : Hide Q := ⟨⟩) : Prop := varD o i s Q
def loopH (g : TGd) (w : TSd) (E : Endd) (xs : List D) (s : Sd) (h1 : Hide g := ⟨⟩) (h2 : Hide w := ⟨⟩) (h3 : Hide E := ⟨⟩) : Prop := loopD g w E xs s
def compH (g : TGd) (u : TTd) (t : TEd) (vs : List Nat) (xs : List D) (s : Sd) (Q : List D → Sd → Prop) (h1 : Hide g := ⟨⟩) (h2 : Hide u := ⟨⟩) (h3 : Hide t := ⟨⟩) (h4 : Hide vs := ⟨⟩) (h5 : Hide Q := ⟨⟩) : Prop := compD g u t vs xs s Q
def whileH (u : TTd) (w : TSd) (E : Endd) (s : Sd) (h1 : Hide u := ⟨⟩) (h2 : Hide w := ⟨⟩) (h3 : Hide E := ⟨⟩) : Prop := dWhile u w E s
theorem e_while : dWhile u w E s = whileH u w E s := id rfl
/-! ### they go on -/
theorem g_ifT : ifD true A B = A := id rfl
theorem g_ifF : ifD false A B = B := id rfl
theorem g_bl {k : Bool} {Q : Bool → Prop} : bD (.bl k) Q = Q k := id rfl
theorem g_int {k : Int} {Q : Int → Prop} : iD (.int k) Q = Q k := id rfl
theorem g_str {k : Str} {Q : Str → Prop} : strD (.str k) Q = Q k := id rfl
theorem g_step : stepD s QS = QS s := id rfl
theorem g_some {α : Type} {o : α} {Q : α → Prop} : optD (some o) Q = Q o := id rfl
theorem g_none {α : Type} {Q : α → Prop} : optD none Q = False := id rfl
theorem g_slst {xs : List D} {Q : List D → Prop} : seqD (.lst xs) Q = Q xs := id rfl
theorem g_stup {xs : List D} {Q : List D → Prop} : seqD (.tup xs) Q = Q xs := id rfl
theorem g_sstr {z : Str} {Q : List D → Prop} : seqD (.str z) Q = Q (signs z) := id rfl
theorem g_sscr {ns : List Int} {Q : List D → Prop} : seqD (.scr ns) Q = Q (ns.map .int) := id rfl
theorem gd_0 {x : Option D} {s : Sd} : gd (x :: s) 0 = x := id rfl
theorem gd_s {x : Option D} {s : Sd} {i : Nat} : gd (x :: s) (i + 1) = gd s i := id rfl
theorem sd_0 {x y : Option D} {s : Sd} : sd (x :: s) 0 y = y :: s := id rfl
theorem sd_s {x y : Option D} {s : Sd} {i : Nat} : sd (x :: s) (i + 1) y = x :: sd s i y := id rfl
theorem if_bool {c : Bool} (h1 : c = true → A) (h2 : c = false → B) : ifD c A B := by cases c; exact h2 rfl; exact h1 rfl
theorem if_dec {p : Prop} [Decidable p] (h1 : p → A) (h2 : ¬p → B) : ifD (decide p) A B := by
  by_cases h : p
  · rw [decide_eq_true h]; exact h1 h
  · rw [decide_eq_false h]; exact h2 h
theorem if_ndec {p : Prop} [Decidable p] (h1 : ¬p → A) (h2 : p → B) : ifD (!decide p) A B := by
  by_cases h : p
  · rw [decide_eq_true h]; exact h2 h
  · rw [decide_eq_false h]; exact h1 h
theorem un_call {sp : SpD} {ds : List D} {X : Str → List D → Prop} : callD sp ds K X = sp ds K X := id rfl
/-! ### statements -/
theorem e_seq : dSeq w1 w2 E s = w1 { E with nx := w2 E } s := id rfl
theorem e_next : dNext E s = E.nx s := id rfl
theorem e_break : dBreak E s = E.bk s := id rfl
theorem e_cont : dCont E s = E.ct s := id rfl
theorem e_drop : dDrop t E s = t s fun _ s1 => E.nx s1 := id rfl
theorem e_ret : dRet t E s = t s fun d _ => E.rt d := id rfl
theorem e_retN : dRetN E s = E.rt .non := id rfl
theorem e_ifS : dIfS u w1 w2 E s = u s fun c s1 => ifD c (w1 E s1) (w2 E s1) := id rfl
theorem e_set : dSet i t E s = t s fun d s1 => stepD (sd s1 i (some d)) E.nx := id rfl
theorem e_own : dOwn i tr E s = tr s fun d s1 => stepD (sd s1 i (some (.own d))) E.nx := id rfl
def parD (i j : Nat) (ds : List D) (s : Sd) (K : Sd → Prop) (h1 : Hide K := ⟨⟩) : Prop := match ds with | [x, y] => K (sd (sd s i (some x)) j (some y)) | _ => False
theorem g_par {x y : D} : parD i j [x, y] s QS = stepD (sd (sd s i (some x)) j (some y)) QS := id rfl
theorem e_par : dPar i j tr E s = tr s fun ds s1 => parD i j ds s1 E.nx := id rfl
theorem e_asg {g : TGd} : dAsg t g E s = t s fun d s1 => g d s1 E.nx := id rfl
theorem e_kName {d : D} : kName i d s QS = stepD (sd s i (some d)) QS := id rfl
theorem e_kNil : kNil [] s QS = QS s := id rfl
theorem e_kCons {g : TGd} {h : TGds} {d : D} {r : List D} : kCons g h (d :: r) s QS = g d s fun s1 => h r s1 QS := id rfl
def tupG (n : Nat) (g : TGds) (d : D) (s : Sd) (Q : Sd → Prop) (h1 : Hide Q := ⟨⟩) : Prop := match d with | .tup xs => xs.length = n ∧ g xs s Q | _ => False
theorem e_kTup {n : Nat} {g : TGds} {d : D} : kTup n g d s QS = tupG n g d s QS := id rfl
theorem g_tupG {n : Nat} {g : TGds} {xs : List D} : tupG n g (.tup xs) s QS = (xs.length = n ∧ g xs s QS) := id rfl
theorem e_for {it : TAd} {g : TGd} : dFor it g w E s = it s fun xs s1 => loopH g w E xs s1 := id rfl
theorem e_raise {Xc : XcD} {x : Str} {n : Nat} : dRaise Xc x n tr E s = tr s fun ds s1 => ds.length = n ∧ Xc x ds.reverse s1 := id rfl
theorem e_try {tb : XcD → TSd} {l : List ClD} {Xc : XcD} : dTry tb l Xc E s = tb (xcCls E Xc l) E s := id rfl
/-! ### expressions -/
theorem e_var : dVar i s Q = varH (gd s i) i s Q := id rfl
theorem g_vown {ds : List D} : varH (some (.own ds)) i s Q = stepD (sd s i (some (.lst ds))) fun s1 => Q (.lst ds) s1 := id rfl
theorem g_vval {d : D} (h : isOwn d = false) : varH (some d) i s Q = Q d s := varD_val h
theorem e_c {d : D} : dC d s Q = Q d s := id rfl
theorem e_op {rD : R2d} : dOp rD ta tb s Q = ta s fun x s1 => tb s1 fun y s2 => op2 rD x y fun d => Q d s2 := id rfl
theorem e_un {f : Int → Int} : dUn f ta s Q = ta s fun x s1 => iD x fun k => Q (.int (f k)) s1 := id rfl
theorem e_if : dIf u ta tb s Q = u s fun c s1 => ifD c (ta s1 Q) (tb s1 Q) := id rfl
theorem e_andV : dAndV ta tb s Q = ta s fun x s1 => bD x fun c => ifD c (tb s1 Q) (Q (.bl false) s1) := id rfl
theorem e_orV : dOrV ta tb s Q = ta s fun x s1 => bD x fun c => ifD c (Q (.bl true) s1) (tb s1 Q) := id rfl
theorem e_notV : dNotV ta s Q = ta s fun x s1 => bD x fun c => Q (.bl (!c)) s1 := id rfl
theorem e_chain {r1 r2 : R2d} : dChain r1 r2 ta tb tc s Q = ta s fun x s1 => tb s1 fun y s2 => op2 r1 x y fun z => bD z fun k => ifD k (tc s2 fun w s3 => op2 r2 y w fun d => Q d s3) (Q (.bl false) s2) := id rfl
theorem e_B : dB t s QT = t s fun x s1 => bD x fun k => QT k s1 := id rfl
theorem e_and : dAnd u1 u2 s QT = u1 s fun c s1 => ifD c (u2 s1 QT) (QT false s1) := id rfl
theorem e_or : dOr u1 u2 s QT = u1 s fun c s1 => ifD c (QT true s1) (u2 s1 QT) := id rfl
theorem e_not : dNot u s QT = u s fun c s1 => QT (!c) s1 := id rfl
theorem e_yes : dYes s QT = QT true s := id rfl
theorem e_isi {f : D → Option Bool} : dIsi f t s Q = t s fun d s1 => optD (f d) fun k => Q (.bl k) s1 := by
  refine congrArg (t s) (funext fun d => funext fun s1 => ?_)
  cases f d <;> rfl
theorem e_CB {rD : RLd} : dCB rD tr s Q = tr s fun xs s1 => opL rD xs fun d => Q d s1 := id rfl
theorem e_nil : dNil s QA = QA [] s := id rfl
theorem e_cons : dCons t tr s QA = t s fun x s1 => tr s1 fun xs s2 => QA (x :: xs) s2 := id rfl
theorem e_tup : dTup tr s Q = tr s fun xs s1 => xs.length ≤ sizeLine ∧ Q (.tup xs) s1 := id rfl
theorem e_fr : dFr tr s Q = tr s fun ds s1 => Q (.lst ds) s1 := id rfl
theorem e_lst : dLst tr s QA = tr s fun xs s1 => xs.length ≤ sizeLine ∧ QA xs s1 := id rfl
def listOfD (xs : List D) (Q : List D → Prop) (h1 : Hide Q := ⟨⟩) : Prop := match xs with | [.tup xs] => Q xs | [.lst xs] => Q xs | _ => False
theorem g_listOft {xs : List D} {Q : List D → Prop} : listOfD [.tup xs] Q = Q xs := id rfl
theorem g_listOfl {xs : List D} {Q : List D → Prop} : listOfD [.lst xs] Q = Q xs := id rfl
theorem e_listOf : dListOf tr s QA = tr s fun xs s1 => listOfD xs fun ds => QA ds s1 := id rfl
theorem e_call {sp : SpD} {Xc : XcD} : dCall sp Xc tr s Q = tr s fun ds s1 => callD sp ds (fun d => Q d s1) fun c es => Xc c es s1 := id rfl
theorem e_seqIt : dSeqIt t s QA = t s fun d s1 => seqD d fun xs => QA xs s1 := id rfl
def ran1D (xs : List D) (Q : List D → Prop) (h1 : Hide Q := ⟨⟩) : Prop := match xs with | [.int j] => (-(2 ^ 62) ≤ j ∧ j < 2 ^ 62) ∧ Q (intsD 0 j.toNat) | _ => False
theorem g_ran1 {j : Int} {Q : List D → Prop} : ran1D [.int j] Q = ((-(2 ^ 62) ≤ j ∧ j < 2 ^ 62) ∧ Q (intsD 0 j.toNat)) := id rfl
theorem e_ran1 : dRange1 tr s QA = tr s fun ds s1 => ran1D ds fun xs => QA xs s1 := id rfl
def ran2D (xs : List D) (Q : List D → Prop) (h1 : Hide Q := ⟨⟩) : Prop := match xs with | [.int i, .int j] => (-(2 ^ 62) ≤ i ∧ i < 2 ^ 62 ∧ -(2 ^ 62) ≤ j ∧ j < 2 ^ 62) ∧ Q (intsD i (j - i).toNat) | _ => False
theorem g_ran2 {i j : Int} {Q : List D → Prop} : ran2D [.int i, .int j] Q = ((-(2 ^ 62) ≤ i ∧ i < 2 ^ 62 ∧ -(2 ^ 62) ≤ j ∧ j < 2 ^ 62) ∧ Q (intsD i (j - i).toNat)) := id rfl
theorem e_ran2 : dRange2 tr s QA = tr s fun ds s1 => ran2D ds fun xs => QA xs s1 := id rfl
theorem e_comp {it : TAd} {g : TGd} {vs : List Nat} : dComp it g u t vs s QA = it s fun xs s1 => xs.length ≤ sizeLine ∧ compH g u t vs xs (wipeD s1 vs) QA := id rfl
theorem wipe_0 : wipeD s [] = s := id rfl
theorem wipe_s {v : Nat} {vs : List Nat} : wipeD s (v :: vs) = sd (wipeD s vs) v none := id rfl
def ownD (o : Option D) (Q : List D → Prop) (h1 : Hide Q := ⟨⟩) : Prop := match o with | some (.own ds) => Q ds | _ => False
theorem g_own {ds : List D} {Q : List D → Prop} : ownD (some (.own ds)) Q = Q ds := id rfl
theorem e_lenOwn : dLenOwn i s Q = ownD (gd s i) fun ds => Q (.int ds.length) s := id rfl
def mutD (f : List D → D → (D → List D → Prop) → Prop) (ds : List D) (d : D) (Q : D → List D → Prop) (h1 : Hide Q := ⟨⟩) : Prop := f ds d Q
theorem e_ownM {f : List D → D → (D → List D → Prop) → Prop} : dOwnM i f t s Q = ownD (gd s i) fun _ => t s fun d s1 => ownD (gd s1 i) fun ds => mutD f ds d fun y es => stepD (sd s1 i (some (.own es))) fun s2 => Q y s2 := id rfl
theorem g_append {ds : List D} {d : D} {Q : D → List D → Prop} : mutD fAppend ds d Q = (ds.length < sizeLine ∧ Q .non (ds ++ [d])) := id rfl
theorem g_pop {ds : List D} {j : Int} {Q : D → List D → Prop} : mutD fPop ds (.int j) Q = ((-(2 ^ 63) ≤ j ∧ j < 2 ^ 63) ∧ optD (seqIndex? j ds.length) fun m => optD ds[m]? fun y => Q y (ds.eraseIdx m)) := by
  refine congrArg (fun X => (-(2 ^ 63) ≤ j ∧ j < 2 ^ 63) ∧ X) ?_
  cases seqIndex? j ds.length with
  | none => rfl
  | some m =>
    show (match ds[m]? with | some y => Q y (ds.eraseIdx m) | none => False) = optD ds[m]? _
    cases ds[m]? <;> rfl
def smD (f : Str → D → (D → Prop) → Prop) (z : Str) (y : D) (Q : D → Prop) (h1 : Hide Q := ⟨⟩) : Prop := f z y Q
theorem e_strM {f : Str → D → (D → Prop) → Prop} : dStrM f ta tb s Q = ta s fun x s1 => strD x fun z => tb s1 fun y s2 => smD f z y fun d => Q d s2 := id rfl
theorem g_joinl {z : Str} {ds : List D} : smD rJoin z (.lst ds) K = optD (asStrs ds) fun ys => (ys.map (·.length)).sum + ys.length * z.length ≤ 16777216 ∧ K (.str (Txt.join z ys)) := by
  show (match asStrs ds with | some ys => _ | none => False) = _
  cases asStrs ds <;> rfl
theorem g_joint {z : Str} {ds : List D} : smD rJoin z (.tup ds) K = optD (asStrs ds) fun ys => (ys.map (·.length)).sum + ys.length * z.length ≤ 16777216 ∧ K (.str (Txt.join z ys)) := by
  show (match asStrs ds with | some ys => _ | none => False) = _
  cases asStrs ds <;> rfl
theorem e_split : dSplit ta tb s QA = ta s fun x s1 => strD x fun z => tb s1 fun y s2 => strD y fun w => ((w.length == 0) = false ∧ z.length + 2 ≤ sizeLine ∧ (Txt.split z w).length ≤ sizeLine) ∧ QA ((Txt.split z w).map .str) s2 := id rfl
def fmtD (d : D) (Q : Str → Prop) (h1 : Hide Q := ⟨⟩) : Prop := match d with | .str y => y.length ≤ sizeLine ∧ Q y | .int i => i.natAbs.log2 < 1920 ∧ Q (toString i) | _ => False
theorem g_fmts {y : Str} {Q : Str → Prop} : fmtD (.str y) Q = (y.length ≤ sizeLine ∧ Q y) := id rfl
theorem g_fmti {i : Int} {Q : Str → Prop} : fmtD (.int i) Q = (i.natAbs.log2 < 1920 ∧ Q (toString i)) := id rfl
theorem e_fmt : dFmt t s Q = t s fun d s1 => fmtD d fun y => Q (.str y) s1 := by
  refine congrArg (t s) (funext fun d => funext fun s1 => ?_)
  cases d <;> rfl
theorem e_joined {ts : List TEd} : dJoined ts s Q = dJs ts Str.empty s fun out s1 => Q (.str out) s1 := id rfl
theorem e_js0 {acc : Str} {QJ : Str → Sd → Prop} : dJs [] acc s QJ = QJ acc s := id rfl
theorem e_js {acc : Str} {ts : List TEd} {QJ : Str → Sd → Prop} : dJs (t :: ts) acc s QJ = t s fun x s1 => strD x fun y => (acc ++ y).length ≤ sizeLine ∧ dJs ts (acc ++ y) s1 QJ := id rfl
theorem e_noPart {QO : Option Int → Sd → Prop} : dNoPart s QO = QO none s := id rfl
theorem e_part {QO : Option Int → Sd → Prop} : dPart t s QO = t s fun x s1 => iD x fun k => QO (some k) s1 := id rfl
def slD (d : D) (lo hi : Option Int) (Q : D → Prop) (h1 : Hide Q := ⟨⟩) : Prop := rSlD d lo hi Q
theorem e_sl {tl th : TOd} : dSl rSlD t tl th s Q = t s fun x s1 => tl s1 fun l s2 => th s2 fun h s3 => slD x l h fun d => Q d s3 := id rfl
theorem g_slt {xs : List D} {lo hi : Option Int} : slD (.tup xs) lo hi K = K (.tup (cutD xs lo hi)) := id rfl
theorem g_sls {z : Str} {lo hi : Option Int} : slD (.str z) lo hi K = (z.length ≤ sizeLine ∧ K (.str (cutS z lo hi))) := id rfl
/-! ### operators -/
theorem o_int0 {f : Int → Int → D} {i j : Int} : op2 (rInt0 f) (.int i) (.int j) K = K (f i j) := id rfl
theorem o_int {C : Int → Int → Prop} {f : Int → Int → D} {i j : Int} : op2 (rInt C f) (.int i) (.int j) K = (C i j ∧ K (f i j)) := id rfl
theorem o_addi {i j : Int} : op2 rAdd (.int i) (.int j) K = K (.int (i + j)) := id rfl
theorem o_adds {i j : Str} : op2 rAdd (.str i) (.str j) K = (i.length + j.length ≤ sizeLine ∧ K (.str (i ++ j))) := id rfl
theorem o_addt {i j : List D} : op2 rAdd (.tup i) (.tup j) K = (i.length + j.length ≤ sizeLine ∧ K (.tup (i ++ j))) := id rfl
theorem o_addl {i j : List D} : op2 rAdd (.lst i) (.lst j) K = (i.length + j.length ≤ sizeLine ∧ K (.lst (i ++ j))) := id rfl
theorem o_eqi {i j : Int} : op2 rEq (.int i) (.int j) K = K (.bl (decide (i = j))) := by
  show (cmpOk _ ∧ cmpOk _ ∧ K (.bl (eqB (.int i) (.int j)))) = _
  rw [eq_int]
  exact propext ⟨fun h => h.2.2, fun h => ⟨cmp_int, cmp_int, h⟩⟩
theorem o_nei {i j : Int} : op2 rNe (.int i) (.int j) K = K (.bl (!decide (i = j))) := by
  show (cmpOk _ ∧ cmpOk _ ∧ K (.bl (!eqB (.int i) (.int j)))) = _
  rw [eq_int]
  exact propext ⟨fun h => h.2.2, fun h => ⟨cmp_int, cmp_int, h⟩⟩
theorem o_eq {x y : D} : op2 rEq x y K = (cmpOk x ∧ cmpOk y ∧ K (.bl (eqB x y))) := id rfl
theorem o_ne {x y : D} : op2 rNe x y K = (cmpOk x ∧ cmpOk y ∧ K (.bl (!eqB x y))) := id rfl
theorem o_isN {x : D} : op2 rIsN x .non K = K (.bl (isNon x)) := id rfl
theorem o_notN {x : D} : op2 rNotN x .non K = K (.bl (!isNon x)) := id rfl
theorem o_bl2 {f : Bool → Bool → Bool} {i j : Bool} : op2 (rBl2 f) (.bl i) (.bl j) K = K (.bl (f i j)) := id rfl
theorem o_ixt {xs : List D} {i : Int} : op2 rIxD (.tup xs) (.int i) K = optD (atI xs i) K := by
  show (match atI xs i with | some d => K d | none => False) = _
  cases atI xs i <;> rfl
theorem o_ixl {xs : List D} {i : Int} : op2 rIxD (.lst xs) (.int i) K = optD (atI xs i) K := by
  show (match atI xs i with | some d => K d | none => False) = _
  cases atI xs i <;> rfl
theorem o_ixs {z : Str} {i : Int} : op2 rIxD (.str z) (.int i) K = (z.length ≤ sizeLine ∧ optD (atI z.cps.toList i) fun c => K (.str ⟨#[c]⟩)) := by
  show (_ ∧ match atI z.cps.toList i with | some c => K (.str ⟨#[c]⟩) | none => False) = _
  cases atI z.cps.toList i <;> rfl
theorem o_inss {f : Bool → Bool} {i j : Str} : op2 (rInS f) (.str i) (.str j) K = K (.bl (f (strIn i j))) := id rfl
theorem o_int_ {f : Bool → Bool} {x : D} {ys : List D} : op2 (rInS f) x (.tup ys) K = (cmpOk x ∧ cmpOk (.tup ys) ∧ K (.bl (f (inB x ys)))) := by cases x <;> rfl
theorem o_inl {f : Bool → Bool} {x : D} {ys : List D} : op2 (rInS f) x (.lst ys) K = (cmpOk x ∧ cmpOk (.lst ys) ∧ K (.bl (f (inB x ys)))) := by cases x <;> rfl
theorem l_lent {xs : List D} : opL rLen [.tup xs] K = K (.int xs.length) := id rfl
theorem l_lenl {xs : List D} : opL rLen [.lst xs] K = K (.int xs.length) := id rfl
theorem l_lens {z : Str} : opL rLen [.str z] K = (z.length ≤ sizeLine ∧ K (.int z.length)) := id rfl
theorem l_abs {i : Int} : opL rAbs [.int i] K = K (.int (if i < 0 then -i else i)) := id rfl
theorem l_inti {i : Int} : opL rIntT [.int i] K = K (.int i) := id rfl
theorem l_intb {k : Bool} : opL rIntT [.bl k] K = K (.int (if k = true then 1 else 0)) := id rfl
theorem l_str {i : Int} : opL rStrT [.int i] K = (i.natAbs.log2 < 1920 ∧ K (.str (toString i))) := id rfl
theorem l_tupt {xs : List D} : opL rTupT [.tup xs] K = K (.tup xs) := id rfl
theorem l_tupl {xs : List D} : opL rTupT [.lst xs] K = K (.tup xs) := id rfl
theorem l_all {f : List Bool → Bool} {xs : List D} : opL (rAllB f) [.lst xs] K = optD (asBls xs) fun bs => K (.bl (f bs)) := by
  show (match asBls xs with | some bs => K (.bl (f bs)) | none => False) = _
  cases asBls xs <;> rfl
theorem l_sum {xs : List D} : opL rSumT [.lst xs] K = optD (asInts xs) fun bs => K (.int bs.sum) := by
  show (match asInts xs with | some bs => K (.int bs.sum) | none => False) = _
  cases asInts xs <;> rfl
theorem isB_non {T : String} : isB T .non = kitB "NoneType" T := id rfl
theorem isB_bl {T : String} {b : Bool} : isB T (.bl b) = kitB "bool" T := id rfl
theorem isB_int {T : String} {b : Int} : isB T (.int b) = kitB "int" T := id rfl
theorem isB_str {T : String} {b : Str} : isB T (.str b) = kitB "str" T := id rfl
theorem isB_tup {T : String} {b : List D} : isB T (.tup b) = kitB "tuple" T := id rfl
theorem isB_lst {T : String} {b : List D} : isB T (.lst b) = kitB "list" T := id rfl
theorem isN_non : isNon .non = true := id rfl
theorem isN_bl {b : Bool} : isNon (.bl b) = false := id rfl
theorem isN_int {b : Int} : isNon (.int b) = false := id rfl
theorem isN_str {b : Str} : isNon (.str b) = false := id rfl
theorem isN_tup {b : List D} : isNon (.tup b) = false := id rfl
theorem isN_lst {b : List D} : isNon (.lst b) = false := id rfl
theorem isN_ins {c : Str} {fs : List D} : isNon (.ins c fs) = false := id rfl
/-! ### caught errors -/
def excD (d : D) (Q : Addr → Addr → Addr → Str → List D → Prop) (h1 : Hide Q := ⟨⟩) : Prop := match d with | .exc a C dx c es => Q a C dx c es | _ => False
theorem g_exc {a C dx : Addr} {c : Str} {es : List D} {Q : Addr → Addr → Addr → Str → List D → Prop} : excD (.exc a C dx c es) Q = Q a C dx c es := id rfl
theorem e_xf {a : Addr} {cls : Value} {dd : Option Addr} {c0 : Str} {j : Nat} : dXf a cls dd c0 j t s Q = t s fun x s1 => excD x fun a' C dx c es => a' = a ∧ cls = .ref C ∧ dd = some dx ∧ c = c0 ∧ optD es[j]? fun v => Q v s1 := by
  refine congrArg (t s) (funext fun d => funext fun s1 => ?_)
  cases d <;> first | rfl | skip
  rename_i a' C dx c es
  show (_ ∧ _ ∧ _ ∧ _ ∧ match es[j]? with | some v => Q v s1 | none => False) = _
  cases h : es[j]? <;> simp only [excD, optD, h]
theorem e_isE {a : Addr} {cls : Value} {dd : Option Addr} {f : Str → Option Bool} : dIsE a cls dd f t s Q = t s fun x s1 => excD x fun a' C dx c es => a' = a ∧ cls = .ref C ∧ dd = some dx ∧ optD (f c) fun b => Q (.bl b) s1 := by
  refine congrArg (t s) (funext fun d => funext fun s1 => ?_)
  cases d <;> first | rfl | skip
  rename_i a' C dx c es
  show (_ ∧ _ ∧ _ ∧ match f c with | some b => Q (.bl b) s1 | none => False) = _
  cases h : f c <;> simp only [excD, optD, h]
theorem x_named {Xc : XcD} {m : Str → Option Bool} {ts : Addr → Value → Option Addr → TSd} {r : List ClD} {c : Str} {es : List D} (h : m c = some true) : xcCls E Xc (⟨m, some i, ts⟩ :: r) c es s = ∀ a C dx : Addr, ts a (.ref C) (some dx) (goneD E i) (sd s i (some (.exc a C dx c es))) := by
  unfold xcCls
  simp only [h]
theorem x_bare {Xc : XcD} {m : Str → Option Bool} {ts : Addr → Value → Option Addr → TSd} {r : List ClD} {c : Str} {es : List D} (h : m c = some true) : xcCls E Xc (⟨m, none, ts⟩ :: r) c es s = ∀ a C dx : Addr, ts a (.ref C) (some dx) E s := by
  unfold xcCls
  simp only [h]
theorem x_not {Xc : XcD} {q : ClD} {r : List ClD} {c : Str} {es : List D} (h : q.m c = some false) : xcCls E Xc (q :: r) c es s = xcCls E Xc r c es s := by
  conv => lhs; unfold xcCls
  simp only [h]
theorem g_gnx : (goneD E i).nx s = E.nx (sd s i none) := id rfl
theorem g_grt {d : D} : (goneD E i).rt d = E.rt d := id rfl
theorem g_gbk : (goneD E i).bk s = E.bk (sd s i none) := id rfl
theorem g_gct : (goneD E i).ct s = E.ct (sd s i none) := id rfl
/-! ### comparisons of numbers that are told -/
theorem d_eq1 {i j : Int} (h : i = j) : decide (i = j) = true := decide_eq_true h
theorem d_eq0 {i j : Int} (h : ¬ i = j) : decide (i = j) = false := decide_eq_false h
theorem d_lt1 {i j : Int} (h : i < j) : decide (i < j) = true := decide_eq_true h
theorem d_lt0 {i j : Int} (h : ¬ i < j) : decide (i < j) = false := decide_eq_false h
theorem d_le1 {i j : Int} (h : i ≤ j) : decide (i ≤ j) = true := decide_eq_true h
theorem d_le0 {i j : Int} (h : ¬ i ≤ j) : decide (i ≤ j) = false := decide_eq_false h
theorem at_nat {α : Type} {xs : List α} {n : Nat} (h : n < xs.length) : atI xs (n : Int) = xs[n]? := by
  unfold atI ixN
  rw [if_pos (by omega), if_pos (by omega)]
  simp
theorem at0 {α : Type} {x : α} {xs : List α} : atI (x :: xs) 0 = some x := at_nat (n := 0) (by simp)
theorem at1 {α : Type} {x y : α} {xs : List α} : atI (x :: y :: xs) 1 = some y := at_nat (n := 1) (by simp)
theorem at2 {α : Type} {x y z : α} {xs : List α} : atI (x :: y :: z :: xs) 2 = some z := at_nat (n := 2) (by simp)
theorem at3 {α : Type} {x y z u : α} {xs : List α} : atI (x :: y :: z :: u :: xs) 3 = some u := at_nat (n := 3) (by simp)
theorem at4 {α : Type} {x y z u v : α} {xs : List α} : atI (x :: y :: z :: u :: v :: xs) 4 = some v := at_nat (n := 4) (by simp)
theorem at5 {α : Type} {x y z u v w : α} {xs : List α} : atI (x :: y :: z :: u :: v :: w :: xs) 5 = some w := at_nat (n := 5) (by simp)
end DL

set_option Elab.async false
set_option linter.all false
set_option maxRecDepth 100000
set_option maxHeartbeats 4000000
/-! K01c: the promises of the defs of law k01. -/
namespace K01
open PySem PySem.Spec L2 DL

/-! ### values -/
def bd (x : Int) : Prop := x.natAbs < 2 ^ 4000
def pairOf : D → Option (Int × Int)
  | .tup [.int p, .int q] => some (p, q)
  | .lst [.int p, .int q] => some (p, q)
  | _ => none
/-- a ratio of small numbers, told as a tuple or a list -/
structure IsP (d : D) (p q : Int) : Prop where
  e : pairOf d = some (p, q)
  q0 : 0 < q
  bp : p.natAbs < 2 ^ 1900
  bq : q.natAbs < 2 ^ 1900
def isIntD : D → Bool
  | .int _ => true
  | _ => false
/-- plain data, as deep as n -/
def okN : Nat → D → Bool
  | _, .non => true
  | _, .bl _ => true
  | _, .int _ => true
  | _, .str x => strOkD x && decide (x.length ≤ 1000)
  | n + 1, .tup xs => decide (xs.length ≤ 1000) && xs.all (okN n)
  | n + 1, .lst xs => decide (xs.length ≤ 1000) && xs.all (okN n)
  | _, _ => false
mutual
def tupD : D → D
  | .tup xs => .tup (tupDs xs)
  | .lst xs => .tup (tupDs xs)
  | d => d
def tupDs : List D → List D
  | [] => []
  | x :: xs => tupD x :: tupDs xs
end
mutual
def lstD : D → D
  | .tup xs => .lst (lstDs xs)
  | .lst xs => .lst (lstDs xs)
  | d => d
def lstDs : List D → List D
  | [] => []
  | x :: xs => lstD x :: lstDs xs
end
mutual
def plainB : D → Bool
  | .non => true
  | .int _ => true
  | .str _ => true
  | .tup xs => plainBs xs
  | _ => false
def plainBs : List D → Bool
  | [] => true
  | x :: xs => plainB x && plainBs xs
end
/-- is_ratio's answer -/
def fitsR (d : D) : Bool := match d with
  | .tup [.int p, .int q] => decide (-999 ≤ p) && decide (p ≤ 999) && decide (1 ≤ q) && decide (q ≤ 99) && decide (gcdI p q = 1)
  | _ => false
def letters : Str := "abcdefghijklmnopqrstuvwxyz"
def reserved : List Str := ["ask", "bar", "add", "coin", "near", "dear", "low", "span", "least", "few", "all", "not", "both", "either", "made", "face", "within", "there", "close", "many", "offer", "day", "back", "object", "rule", "house", "first", "last", "cheapest", "stands", "falls", "nobody"]
def cWORDS : D := .tup (reserved.map .str)
def cLETTERS : D := .str letters
/-- is_name's answer -/
def fitsN (d : D) : Bool := match d with
  | .str x => decide (1 ≤ x.length) && decide (x.length ≤ 8) && !(reserved.contains x) && (signs x).all fun c => match c with | .str y => strIn y letters | _ => false
  | _ => false

/-! ### the promises -/
def sp_is_name : SpD := fun ds Q _ => match ds with
  | [d] => okN 8 d = true ∧ Q (.bl (fitsN d))
  | _ => False
def inRng (d : D) (lo hi : Int) : Bool := match d with
  | .int i => decide (lo ≤ i) && decide (i ≤ hi)
  | _ => false
def sp_is_integer : SpD := fun ds Q _ => match ds with
  | [d, .int lo, .int hi] => okN 8 d = true ∧ Q (.bl (inRng d lo hi))
  | _ => False
def spN (n : Nat) (f : D → D) : SpD := fun ds Q _ => match ds with
  | [d] => okN n d = true ∧ Q (f d)
  | _ => False
def sp_deep : Nat → SpD := fun n => spN n tupD
def sp_common : SpD := fun ds Q _ => match ds with
  | [.int a, .int b] => 0 ≤ a ∧ 0 ≤ b ∧ Q (.int (gcdI a b))
  | _ => False
def sp_ratio : SpD := fun ds Q E => match ds with
  | [.int t, .int b] => bd b ∧ (b = 0 → E "BadRatio" [.int b, .int t]) ∧ (0 < b → Q (rOf t b)) ∧ (b < 0 → Q (rOf (-t) (-b)))
  | _ => False
/-- .. the second time round -/
def sp_ratio0 : SpD := fun ds Q _ => match ds with
  | [.int t, .int b] => bd b ∧ 0 < b ∧ Q (rOf t b)
  | _ => False
def sp_rate_of : SpD := fun ds Q _ => match ds with
  | [d] => okN 8 d = true ∧ Q (if fitsR (tupD d) = true then tupD d else .non)
  | _ => False
def sp_is_ratio : SpD := fun ds Q _ => match ds with
  | [d] => okN 8 d = true ∧ Q (.bl (fitsR (tupD d)))
  | _ => False
/-- the sum of ratios, not in lowest terms -/
def sumR : List (Int × Int) → Int × Int
  | [] => (0, 1)
  | (p, q) :: r => let (t, b) := sumR r; (t * q + p * b, b * q)
def pairsOf : List D → Option (List (Int × Int))
  | [] => some []
  | d :: r => match pairOf d, pairsOf r with
    | some x, some xs => some (x :: xs)
    | _, _ => none
def small6 (x : Int × Int) : Prop := 0 < x.2 ∧ x.1.natAbs < 2 ^ 600 ∧ x.2.natAbs < 2 ^ 600
/-- plus(a, b, ..), seen through its one tuple -/
def sp_plus1 : SpD := fun ds Q _ => match ds with
  | [.tup xs] => xs.length ≤ 6 ∧ ∃ ps, pairsOf xs = some ps ∧ (∀ x ∈ ps, small6 x) ∧ ∀ t b : Int, 0 < b → t * (sumR ps).2 = (sumR ps).1 * b → Q (rOf t b)
  | _ => False
def sp_plus : SpD := fun ds Q E => ds.length ≤ sizeLine ∧ sp_plus1 [.tup ds] Q E
def sp2 (f : Int → Int → Int → Int → D) : SpD := fun ds Q _ => match ds with
  | [a, b] => ∃ p q r s, IsP a p q ∧ IsP b r s ∧ Q (f p q r s)
  | _ => False
def sp_minus : SpD := sp2 fun p q r s => rOf (p * s - r * q) (q * s)
def sp_times : SpD := sp2 fun p q r s => rOf (p * r) (q * s)
def sp_less : SpD := sp2 fun p q r s => .bl (decide (p * s < r * q))
def textR (p q : Int) : Str := if q = 1 then toString p else (toString p ++ "/" : Str) ++ toString q
def sp_write_ratio : SpD := fun ds Q _ => match ds with
  | [a] => ∃ p q, IsP a p q ∧ Q (.str (textR p q))
  | _ => False
/-! ### errors caught -/
def only (x : Str) (b : Bool) : Str → Option Bool := fun n => if n = x then some b else none
def m_BadRatio := only "BadRatio" true
def m_StrawError := only "BadRatio" true
def is_StrawError := only "BadRatio" true
def is_ValueError := only "BadRatio" true
def is_BadFace := only "BadRatio" false
/-! ### the law's own defs -/
/-- a drawn ratio -/
structure IsL (d : D) (p q : Int) : Prop where
  e : d = .tup [.int p, .int q]
  q0 : 0 < q
  bp : p.natAbs ≤ 10 ^ 39
  bq : q ≤ 10 ^ 39
  c : gcdI p q = 1
abbrev sp__law_pick : SpD := spPick
def sp__law_choice : SpD := fun ds Q _ => match ds with
  | [.bag, .lst xs] => xs ≠ [] ∧ xs.length ≤ 1000 ∧ ∀ x ∈ xs, Q x
  | _ => False
def sp__law_one_in : SpD := fun ds Q _ => match ds with
  | [.bag, .int m] => 0 < m ∧ m ≤ 1000 ∧ ∀ b : Bool, Q (.bl b)
  | _ => False
def sp__law_shuffled : SpD := fun ds Q _ => match ds with
  | [.bag, .lst xs] => xs.length ≤ 1000 ∧ ∀ ys, ys.Perm xs → Q (.lst ys)
  | _ => False
def sp__law_integer : SpD := fun ds Q _ => match ds with
  | [d] => okN 8 d = true ∧ Q (.bl (isIntD d))
  | _ => False
def sp__law_plain : Nat → SpD := fun n => spN n fun d => .bl (plainB d)
def sp__law_lists : Nat → SpD := fun n => spN n lstD
def sp__law_tuples : Nat → SpD := fun n => spN n tupD
def sp__law_spelled : SpD := fun ds Q _ => match ds with
  | [.bag, .int n] => 0 ≤ n ∧ n ≤ 10 ∧ ∀ z : Str, z.length ≤ 10 → strOkD z = true → Q (.str z)
  | _ => False
def sp__law_reserved : SpD := fun ds Q _ => match ds with
  | [] => Q (.lst (reserved.map .str))
  | _ => False
abbrev sp__law_common : SpD := sp_common
abbrev sp__law_ratio : SpD := sp_ratio0
def sp__law_plus : SpD := sp2 fun p q r s => rOf (p * s + r * q) (q * s)
def sp__law_number_of : SpD := fun ds Q _ => match ds with
  | [.bag, .int size] => 0 ≤ size ∧ size ≤ 3 ∧ ∀ n : Int, n.natAbs ≤ 10 ^ 39 → Q (.int n)
  | _ => False
def sp__law_drawn : SpD := fun ds Q _ => match ds with
  | [.bag, .int size] => 0 ≤ size ∧ size ≤ 3 ∧ ∀ d p q, IsL d p q → Q d
  | _ => False
def madeD (t l : Int) : D := if l = 0 then .tup [.str "refused", .int t, .int l, .bl true] else if 0 < l then .tup [.str "made", rOf t l, .int 0, .bl true] else .tup [.str "made", rOf (-t) (-l), .int 0, .bl true]
def sp__law_made : SpD := fun ds Q _ => match ds with
  | [.int t, .int l] => bd l ∧ Q (madeD t l)
  | _ => False
def spBag1 : SpD := fun ds Q _ => match ds with
  | [.bag] => Q (.bl true)
  | _ => False
def sp__law_made_right : SpD := fun ds Q _ => match ds with
  | [.bag, .int size] => 0 ≤ size ∧ size ≤ 3 ∧ Q (.bl true)
  | _ => False
def sp__law_sum : SpD := fun ds Q _ => match ds with
  | [.lst xs] => xs.length ≤ 6 ∧ ∃ ps, pairsOf xs = some ps ∧ (∀ x ∈ ps, small6 x) ∧ ∀ t b : Int, 0 < b → t * (sumR ps).2 = (sumR ps).1 * b → Q (rOf t b)
  | _ => False
def sp__law_sums_right : SpD := fun ds Q _ => match ds with
  | [.bag, .lst xs] => xs.length ≤ 6 ∧ (∀ x ∈ xs, ∃ p q, IsL x p q) ∧ Q (.bl true)
  | _ => False
def sp__law_text : SpD := sp_write_ratio
def sp__law_truth : SpD := fun ds Q _ => match ds with
  | [.bl x, .bl y] => Q (.bl (x == y))
  | _ => False
def sp__law_two_right : SpD := fun ds Q _ => match ds with
  | [a, b] => ∃ p q r s, IsL a p q ∧ IsL b r s ∧ Q (.bl true)
  | _ => False
def sp__law_algebra : SpD := fun ds Q _ => match ds with
  | [a, b, c] => ∃ p q r s t u, IsL a p q ∧ IsL b r s ∧ IsL c t u ∧ Q (.bl true)
  | _ => False
def sp__law_odd_ratio : SpD := fun ds Q _ => match ds with
  | [.bag] => ∀ d, okN 7 d = true → tupD d = d → Q d
  | _ => False
def sp__law_ratio_fits : SpD := fun ds Q _ => match ds with
  | [d] => okN 8 d = true ∧ Q (.bl (fitsR d))
  | _ => False
def sp__law_word_of : SpD := fun ds Q _ => match ds with
  | [.bag] => ∀ d, okN 7 d = true → Q d
  | _ => False
def sp__law_name_fits : SpD := fun ds Q _ => match ds with
  | [d] => okN 8 d = true ∧ Q (.bl (fitsN d))
  | _ => False
abbrev sp__law_names_right : SpD := spBag1
end K01

set_option Elab.async false
set_option linter.all false
set_option maxRecDepth 100000
set_option maxHeartbeats 4000000
namespace K01
open PySem PySem.Spec L2 DL
def t_is_name (Xd : Str → List D → Prop) : TSd :=
  dSeq (dIfS (dOr (dNot (dB (dIsi (isB "str") (dVar 0)))) (dOr (dNot (dB (dChain rLeI rLeI (dC (.int 1)) (dCB rLen (dCons (dVar 0) (dNil))) (dC (.int 8))))) (dB (dOp (rInS fun b => b) (dVar 0) (dC cWORDS))))) (dRet (dC (.bl false))) (dNext))
  (dRet (dCB (rAllB fun bs => bs.all id) (dCons (dFr (dComp (dSeqIt (dVar 0)) (kName 1) (dYes) (dOp (rInS fun b => b) (dVar 1) (dC cLETTERS)) [1])) (dNil))))
def t_is_integer (Xd : Str → List D → Prop) : TSd :=
  dRet (dAndV (dIsi (isB "int") (dVar 0)) (dAndV (dNotV (dIsi (isB "bool") (dVar 0))) (dChain rLeI rLeI (dVar 1) (dVar 0) (dVar 2))))
def t_deep (spr : SpD) (Xd : Str → List D → Prop) : TSd :=
  dSeq (dIfS (dB (dIsi (isB2 "tuple" "list") (dVar 0))) (dRet (dCB rTupT (dCons (dFr (dComp (dSeqIt (dVar 0)) (kName 1) (dYes) (dCall spr noX (dCons (dVar 1) (dNil))) [1])) (dNil)))) (dNext))
  (dRet (dVar 0))
def t_common (Xd : Str → List D → Prop) : TSd :=
  dSeq (dWhile (dB (dOp rGtI (dVar 1) (dC (.int 0)))) (dPar 0 1 (dCons (dVar 1) (dCons (dOp rMod (dVar 0) (dVar 1)) (dNil)))))
  (dRet (dVar 0))
def t_ratio (spr : SpD) (Xd : Str → List D → Prop) : TSd :=
  dSeq (dIfS (dB (dOp rEq (dVar 1) (dC (.int 0)))) (dRaise (xcOf Xd) "BadRatio" 2 (dCons (dVar 0) (dCons (dVar 1) (dNil)))) (dNext))
  (dSeq (dIfS (dB (dOp rLtI (dVar 1) (dC (.int 0)))) (dRet (dCall spr (xcOf Xd) (dCons (dUn (fun i => -i) (dVar 0)) (dCons (dUn (fun i => -i) (dVar 1)) (dNil))))) (dNext))
  (dSeq (dSet 2 (dCall sp_common (xcOf Xd) (dCons (dCB rAbs (dCons (dVar 0) (dNil))) (dCons (dVar 1) (dNil)))))
  (dRet (dTup (dCons (dOp rDiv (dVar 0) (dVar 2)) (dCons (dOp rDiv (dVar 1) (dVar 2)) (dNil)))))))
def t_rate_of (Xd : Str → List D → Prop) : TSd :=
  dSeq (dSet 1 (dCall (sp_deep 8) (xcOf Xd) (dCons (dVar 0) (dNil))))
  (dSeq (dIfS (dOr (dNot (dB (dIsi (isB "tuple") (dVar 1)))) (dB (dOp rNe (dCB rLen (dCons (dVar 1) (dNil))) (dC (.int 2))))) (dRet (dC .non)) (dNext))
  (dSeq (dIfS (dOr (dNot (dB (dCall sp_is_integer (xcOf Xd) (dCons (dOp rIxD (dVar 1) (dC (.int 0))) (dCons (dUn (fun i => -i) (dC (.int 999))) (dCons (dC (.int 999)) (dNil))))))) (dNot (dB (dCall sp_is_integer (xcOf Xd) (dCons (dOp rIxD (dVar 1) (dC (.int 1))) (dCons (dC (.int 1)) (dCons (dC (.int 99)) (dNil)))))))) (dRet (dC .non)) (dNext))
  (dSeq (dIfS (dB (dOp rNe (dCall sp_common (xcOf Xd) (dCons (dCB rAbs (dCons (dOp rIxD (dVar 1) (dC (.int 0))) (dNil))) (dCons (dOp rIxD (dVar 1) (dC (.int 1))) (dNil)))) (dC (.int 1)))) (dRet (dC .non)) (dNext))
  (dRet (dVar 1)))))
def t_is_ratio (Xd : Str → List D → Prop) : TSd :=
  dRet (dOp rNotN (dCall sp_rate_of (xcOf Xd) (dCons (dVar 0) (dNil))) (dC .non))
def t_plus (Xd : Str → List D → Prop) : TSd :=
  dSeq (dAsg (dTup (dCons (dC (.int 0)) (dCons (dC (.int 1)) (dNil)))) (kTup 2 (kCons (kName 1) (kCons (kName 2) (kNil)))))
  (dSeq (dFor (dSeqIt (dVar 0)) (kName 3) (dPar 1 2 (dCons (dOp rAdd (dOp rMul (dVar 1) (dOp rIxD (dVar 3) (dC (.int 1)))) (dOp rMul (dOp rIxD (dVar 3) (dC (.int 0))) (dVar 2))) (dCons (dOp rMul (dVar 2) (dOp rIxD (dVar 3) (dC (.int 1)))) (dNil)))))
  (dRet (dCall sp_ratio (xcOf Xd) (dCons (dVar 1) (dCons (dVar 2) (dNil))))))
def t_minus (Xd : Str → List D → Prop) : TSd :=
  dRet (dCall sp_ratio (xcOf Xd) (dCons (dOp rSub (dOp rMul (dOp rIxD (dVar 0) (dC (.int 0))) (dOp rIxD (dVar 1) (dC (.int 1)))) (dOp rMul (dOp rIxD (dVar 1) (dC (.int 0))) (dOp rIxD (dVar 0) (dC (.int 1))))) (dCons (dOp rMul (dOp rIxD (dVar 0) (dC (.int 1))) (dOp rIxD (dVar 1) (dC (.int 1)))) (dNil))))
def t_times (Xd : Str → List D → Prop) : TSd :=
  dRet (dCall sp_ratio (xcOf Xd) (dCons (dOp rMul (dOp rIxD (dVar 0) (dC (.int 0))) (dOp rIxD (dVar 1) (dC (.int 0)))) (dCons (dOp rMul (dOp rIxD (dVar 0) (dC (.int 1))) (dOp rIxD (dVar 1) (dC (.int 1)))) (dNil))))
def t_less (Xd : Str → List D → Prop) : TSd :=
  dRet (dOp rLtI (dOp rMul (dOp rIxD (dVar 0) (dC (.int 0))) (dOp rIxD (dVar 1) (dC (.int 1)))) (dOp rMul (dOp rIxD (dVar 1) (dC (.int 0))) (dOp rIxD (dVar 0) (dC (.int 1)))))
def t_write_ratio (Xd : Str → List D → Prop) : TSd :=
  dSeq (dIfS (dB (dOp rEq (dOp rIxD (dVar 0) (dC (.int 1))) (dC (.int 1)))) (dRet (dFmt (dOp rIxD (dVar 0) (dC (.int 0))))) (dNext))
  (dRet (dJoined [dFmt (dOp rIxD (dVar 0) (dC (.int 0))), dC (.str "/"), dFmt (dOp rIxD (dVar 0) (dC (.int 1)))]))
def t__law_choice (Xd : Str → List D → Prop) : TSd :=
  dRet (dOp rIxD (dVar 1) (dCall sp__law_pick (xcOf Xd) (dCons (dVar 0) (dCons (dCB rLen (dCons (dVar 1) (dNil))) (dNil)))))
def t__law_one_in (Xd : Str → List D → Prop) : TSd :=
  dRet (dOp rEq (dCall sp__law_pick (xcOf Xd) (dCons (dVar 0) (dCons (dVar 1) (dNil)))) (dC (.int 0)))
def t__law_shuffled (Xd : Str → List D → Prop) : TSd :=
  dSeq (dOwn 2 (dListOf (dCons (dVar 1) (dNil))))
  (dSeq (dOwn 3 (dLst (dNil)))
  (dSeq (dFor (dRange1 (dCons (dCB rLen (dCons (dVar 1) (dNil))) (dNil))) (kName 4) (dDrop (dOwnM 3 fAppend (dOwnM 2 fPop (dCall sp__law_pick (xcOf Xd) (dCons (dVar 0) (dCons (dLenOwn 2) (dNil))))))))
  (dRet (dVar 3))))
def t__law_integer (Xd : Str → List D → Prop) : TSd :=
  dRet (dAndV (dIsi (isB "int") (dVar 0)) (dNotV (dIsi (isB "bool") (dVar 0))))
def t__law_plain (spr : SpD) (Xd : Str → List D → Prop) : TSd :=
  dSeq (dIfS (dB (dIsi (isB "tuple") (dVar 0))) (dSeq (dFor (dSeqIt (dVar 0)) (kName 1) (dIfS (dNot (dB (dCall spr (xcOf Xd) (dCons (dVar 1) (dNil))))) (dRet (dC (.bl false))) (dNext)))
  (dRet (dC (.bl true)))) (dNext))
  (dRet (dOrV (dOp rIsN (dVar 0) (dC .non)) (dOrV (dIsi (isB "str") (dVar 0)) (dCall sp__law_integer (xcOf Xd) (dCons (dVar 0) (dNil))))))
def t__law_lists (spr : SpD) (Xd : Str → List D → Prop) : TSd :=
  dSeq (dIfS (dOr (dB (dIsi (isB "tuple") (dVar 0))) (dB (dIsi (isB "list") (dVar 0)))) (dRet (dFr (dComp (dSeqIt (dVar 0)) (kName 1) (dYes) (dCall spr noX (dCons (dVar 1) (dNil))) [1]))) (dNext))
  (dRet (dVar 0))
def t__law_tuples (spr : SpD) (Xd : Str → List D → Prop) : TSd :=
  dSeq (dIfS (dOr (dB (dIsi (isB "list") (dVar 0))) (dB (dIsi (isB "tuple") (dVar 0)))) (dRet (dCB rTupT (dCons (dFr (dComp (dSeqIt (dVar 0)) (kName 1) (dYes) (dCall spr noX (dCons (dVar 1) (dNil))) [1])) (dNil)))) (dNext))
  (dRet (dVar 0))
def t__law_spelled (Xd : Str → List D → Prop) : TSd :=
  dRet (dStrM rJoin (dC (.str "")) (dFr (dComp (dRange1 (dCons (dVar 1) (dNil))) (kName 2) (dYes) (dOp rIxD (dC (.str "abcdefghijklmnopqrstuvwxyz")) (dCall sp__law_pick noX (dCons (dVar 0) (dCons (dC (.int 26)) (dNil))))) [2])))
def t__law_reserved (Xd : Str → List D → Prop) : TSd :=
  dSeq (dSet 0 (dC (.str "ask bar add coin near dear low span least few all not both either made face within there close many offer ")))
  (dRet (dFr (dSplit (dOp rAdd (dVar 0) (dC (.str "day back object rule house first last cheapest stands falls nobody"))) (dC (.str " ")))))
def t__law_common (Xd : Str → List D → Prop) : TSd :=
  dSeq (dWhile (dB (dOp rGtI (dVar 1) (dC (.int 0)))) (dPar 0 1 (dCons (dVar 1) (dCons (dOp rMod (dCB rIntT (dCons (dVar 0) (dNil))) (dVar 1)) (dNil)))))
  (dRet (dVar 0))
def t__law_ratio (Xd : Str → List D → Prop) : TSd :=
  dSeq (dSet 2 (dCall sp__law_common (xcOf Xd) (dCons (dCB rAbs (dCons (dVar 0) (dNil))) (dCons (dVar 1) (dNil)))))
  (dRet (dTup (dCons (dOp rDiv (dVar 0) (dVar 2)) (dCons (dOp rDiv (dVar 1) (dVar 2)) (dNil)))))
def t__law_plus (Xd : Str → List D → Prop) : TSd :=
  dRet (dCall sp__law_ratio (xcOf Xd) (dCons (dOp rAdd (dOp rMul (dOp rIxD (dVar 0) (dC (.int 0))) (dOp rIxD (dVar 1) (dC (.int 1)))) (dOp rMul (dOp rIxD (dVar 1) (dC (.int 0))) (dOp rIxD (dVar 0) (dC (.int 1))))) (dCons (dOp rMul (dOp rIxD (dVar 0) (dC (.int 1))) (dOp rIxD (dVar 1) (dC (.int 1)))) (dNil))))
def t__law_number_of (Xd : Str → List D → Prop) : TSd :=
  dSeq (dSet 2 (dOp rIxD (dFr (dLst (dCons (dC (.int 13)) (dCons (dC (.int 1000)) (dCons (dOp rPow (dC (.int 10)) (dC (.int 9))) (dCons (dOp rAdd (dOp rPow (dC (.int 10)) (dC (.int 39))) (dC (.int 1))) (dNil))))))) (dVar 1)))
  (dRet (dOp rSub (dCall sp__law_pick (xcOf Xd) (dCons (dVar 0) (dCons (dVar 2) (dNil)))) (dCall sp__law_pick (xcOf Xd) (dCons (dVar 0) (dCons (dVar 2) (dNil))))))
def t__law_drawn (Xd : Str → List D → Prop) : TSd :=
  dSeq (dSet 2 (dCall sp__law_number_of (xcOf Xd) (dCons (dVar 0) (dCons (dVar 1) (dNil)))))
  (dRet (dCall sp__law_ratio (xcOf Xd) (dCons (dVar 2) (dCons (dOp rAdd (dC (.int 1)) (dCall sp__law_pick (xcOf Xd) (dCons (dVar 0) (dCons (dOp rIxD (dFr (dLst (dCons (dC (.int 12)) (dCons (dC (.int 99)) (dCons (dOp rPow (dC (.int 10)) (dC (.int 9))) (dCons (dOp rPow (dC (.int 10)) (dC (.int 39))) (dNil))))))) (dVar 1)) (dNil))))) (dNil)))))
def t__law_made (Xd : Str → List D → Prop) : TSd :=
  dSeq (dTry (fun xc1 => dSet 2 (dCall sp_ratio xc1 (dCons (dVar 0) (dCons (dVar 1) (dNil))))) [⟨m_BadRatio, some 3, fun a cls d => dSeq (dSet 4 (dAndV (dIsE a cls d is_StrawError (dVar 3)) (dIsE a cls d is_ValueError (dVar 3))))
  (dRet (dTup (dCons (dC (.str "refused")) (dCons (dXf a cls d "BadRatio" 1 (dVar 3)) (dCons (dXf a cls d "BadRatio" 0 (dVar 3)) (dCons (dAndV (dVar 4) (dNotV (dIsE a cls d is_BadFace (dVar 3)))) (dNil)))))))⟩, ⟨m_StrawError, none, fun a cls d => dRet (dTup (dCons (dC (.str "another")) (dCons (dC (.int 0)) (dCons (dC (.int 0)) (dCons (dC (.bl false)) (dNil))))))⟩] (xcOf Xd))
  (dRet (dTup (dCons (dC (.str "made")) (dCons (dVar 2) (dCons (dC (.int 0)) (dCons (dC (.bl true)) (dNil)))))))
abbrev sp_ratio_1 : SpD := fun ds Q E => sp_ratio (ds ++ [.int 1]) Q E
def t__law_made_right_10 (Xd : Str → List D → Prop) : TSd :=
  dRet (dAndV (dCall (sp__law_plain 8) (xcOf Xd) (dCons (dVar 6) (dNil))) (dOp rEq (dVar 6) (dTup (dCons (dVar 2) (dCons (dC (.int 1)) (dNil))))))
def t__law_made_right_9 (Xd : Str → List D → Prop) : TSd :=
  dSeq (dSet 6 (dCall sp_ratio_1 (xcOf Xd) (dCons (dVar 2) (dNil)))) (t__law_made_right_10 Xd)
def t__law_made_right_8 (Xd : Str → List D → Prop) : TSd :=
  dSeq (dIfS (dOr (dB (dOp rNe (dVar 5) (dVar 4))) (dNot (dB (dCall (sp__law_plain 8) (xcOf Xd) (dCons (dSl rSlD (dVar 5) (dNoPart) (dPart (dC (.int 3)))) (dNil)))))) (dRet (dC (.bl false))) (dNext)) (t__law_made_right_9 Xd)
def t__law_made_right_7 (Xd : Str → List D → Prop) : TSd :=
  dSeq (dSet 5 (dCall sp__law_made (xcOf Xd) (dCons (dVar 2) (dCons (dVar 3) (dNil))))) (t__law_made_right_8 Xd)
def t__law_made_right_6 (Xd : Str → List D → Prop) : TSd :=
  dSeq (dIfS (dB (dOp rLtI (dVar 3) (dC (.int 0)))) (dSet 4 (dTup (dCons (dC (.str "made")) (dCons (dCall sp__law_ratio (xcOf Xd) (dCons (dUn (fun i => -i) (dVar 2)) (dCons (dUn (fun i => -i) (dVar 3)) (dNil)))) (dCons (dC (.int 0)) (dCons (dC (.bl true)) (dNil))))))) (dNext)) (t__law_made_right_7 Xd)
def t__law_made_right_5 (Xd : Str → List D → Prop) : TSd :=
  dSeq (dIfS (dB (dOp rGtI (dVar 3) (dC (.int 0)))) (dSet 4 (dTup (dCons (dC (.str "made")) (dCons (dCall sp__law_ratio (xcOf Xd) (dCons (dVar 2) (dCons (dVar 3) (dNil)))) (dCons (dC (.int 0)) (dCons (dC (.bl true)) (dNil))))))) (dNext)) (t__law_made_right_6 Xd)
def t__law_made_right_4 (Xd : Str → List D → Prop) : TSd :=
  dSeq (dSet 4 (dTup (dCons (dC (.str "refused")) (dCons (dVar 2) (dCons (dVar 3) (dCons (dC (.bl true)) (dNil))))))) (t__law_made_right_5 Xd)
def t__law_made_right_3 (Xd : Str → List D → Prop) : TSd :=
  dSeq (dIfS (dB (dCall sp__law_one_in (xcOf Xd) (dCons (dVar 0) (dCons (dC (.int 4)) (dNil))))) (dSeq (dSet 3 (dOp rMul (dVar 3) (dC (.int 2))))
  (dSet 2 (dOp rMul (dVar 2) (dC (.int 2))))) (dNext)) (t__law_made_right_4 Xd)
def t__law_made_right_2 (Xd : Str → List D → Prop) : TSd :=
  dSeq (dIfS (dB (dCall sp__law_one_in (xcOf Xd) (dCons (dVar 0) (dCons (dC (.int 5)) (dNil))))) (dSet 3 (dC (.int 0))) (dNext)) (t__law_made_right_3 Xd)
def t__law_made_right_1 (Xd : Str → List D → Prop) : TSd :=
  dSeq (dSet 3 (dCall sp__law_number_of (xcOf Xd) (dCons (dVar 0) (dCons (dVar 1) (dNil))))) (t__law_made_right_2 Xd)
def t__law_made_right (Xd : Str → List D → Prop) : TSd :=
  dSeq (dSet 2 (dCall sp__law_number_of (xcOf Xd) (dCons (dVar 0) (dCons (dVar 1) (dNil))))) (t__law_made_right_1 Xd)
def t__law_sum (Xd : Str → List D → Prop) : TSd :=
  dSeq (dIfS (dB (dOp rEq (dCB rLen (dCons (dVar 0) (dNil))) (dC (.int 0)))) (dRet (dCall sp_plus (xcOf Xd) dNil)) (dNext))
  (dSeq (dIfS (dB (dOp rEq (dCB rLen (dCons (dVar 0) (dNil))) (dC (.int 1)))) (dRet (dCall sp_plus (xcOf Xd) (dCons (dOp rIxD (dVar 0) (dC (.int 0))) (dNil)))) (dNext))
  (dSeq (dIfS (dB (dOp rEq (dCB rLen (dCons (dVar 0) (dNil))) (dC (.int 2)))) (dRet (dCall sp_plus (xcOf Xd) (dCons (dOp rIxD (dVar 0) (dC (.int 0))) (dCons (dOp rIxD (dVar 0) (dC (.int 1))) (dNil))))) (dNext))
  (dSeq (dIfS (dB (dOp rEq (dCB rLen (dCons (dVar 0) (dNil))) (dC (.int 3)))) (dRet (dCall sp_plus (xcOf Xd) (dCons (dOp rIxD (dVar 0) (dC (.int 0))) (dCons (dOp rIxD (dVar 0) (dC (.int 1))) (dCons (dOp rIxD (dVar 0) (dC (.int 2))) (dNil)))))) (dNext))
  (dSeq (dIfS (dB (dOp rEq (dCB rLen (dCons (dVar 0) (dNil))) (dC (.int 4)))) (dRet (dCall sp_plus (xcOf Xd) (dCons (dOp rIxD (dVar 0) (dC (.int 0))) (dCons (dOp rIxD (dVar 0) (dC (.int 1))) (dCons (dOp rIxD (dVar 0) (dC (.int 2))) (dCons (dOp rIxD (dVar 0) (dC (.int 3))) (dNil))))))) (dNext))
  (dSeq (dIfS (dB (dOp rEq (dCB rLen (dCons (dVar 0) (dNil))) (dC (.int 5)))) (dRet (dCall sp_plus (xcOf Xd) (dCons (dOp rIxD (dVar 0) (dC (.int 0))) (dCons (dOp rIxD (dVar 0) (dC (.int 1))) (dCons (dOp rIxD (dVar 0) (dC (.int 2))) (dCons (dOp rIxD (dVar 0) (dC (.int 3))) (dCons (dOp rIxD (dVar 0) (dC (.int 4))) (dNil)))))))) (dNext))
  (dRet (dCall sp_plus (xcOf Xd) (dCons (dOp rIxD (dVar 0) (dC (.int 0))) (dCons (dOp rIxD (dVar 0) (dC (.int 1))) (dCons (dOp rIxD (dVar 0) (dC (.int 2))) (dCons (dOp rIxD (dVar 0) (dC (.int 3))) (dCons (dOp rIxD (dVar 0) (dC (.int 4))) (dCons (dOp rIxD (dVar 0) (dC (.int 5))) (dNil))))))))))))))
def t__law_sums_right_8 (Xd : Str → List D → Prop) : TSd :=
  dRet (dAndV (dOp rEq (dVar 6) (dVar 2)) (dAndV (dOp rEq (dVar 7) (dVar 2)) (dOp rEq (dFr (dComp (dSeqIt (dVar 4)) (kName 3) (dYes) (dCall (sp__law_tuples 8) noX (dCons (dVar 3) (dNil))) [3])) (dVar 5))))
def t__law_sums_right_7 (Xd : Str → List D → Prop) : TSd :=
  dSeq (dIfS (dOr (dNot (dB (dCall (sp__law_plain 8) (xcOf Xd) (dCons (dVar 6) (dNil))))) (dNot (dB (dCall (sp__law_plain 8) (xcOf Xd) (dCons (dVar 7) (dNil)))))) (dRet (dC (.bl false))) (dNext)) (t__law_sums_right_8 Xd)
def t__law_sums_right_6 (Xd : Str → List D → Prop) : TSd :=
  dSeq (dSet 7 (dCall sp__law_sum (xcOf Xd) (dCons (dCall sp__law_shuffled (xcOf Xd) (dCons (dVar 0) (dCons (dVar 4) (dNil)))) (dNil)))) (t__law_sums_right_7 Xd)
def t__law_sums_right_5 (Xd : Str → List D → Prop) : TSd :=
  dSeq (dSet 6 (dCall sp__law_sum (xcOf Xd) (dCons (dVar 4) (dNil)))) (t__law_sums_right_6 Xd)
def t__law_sums_right_4 (Xd : Str → List D → Prop) : TSd :=
  dSeq (dSet 5 (dFr (dComp (dSeqIt (dVar 4)) (kName 3) (dYes) (dCall (sp__law_tuples 8) noX (dCons (dVar 3) (dNil))) [3]))) (t__law_sums_right_5 Xd)
def t__law_sums_right_3 (Xd : Str → List D → Prop) : TSd :=
  dSeq (dIfS (dB (dCall sp__law_one_in (xcOf Xd) (dCons (dVar 0) (dCons (dC (.int 3)) (dNil))))) (dSet 4 (dFr (dComp (dSeqIt (dVar 1)) (kName 3) (dYes) (dFr (dListOf (dCons (dVar 3) (dNil)))) [3]))) (dNext)) (t__law_sums_right_4 Xd)
def t__law_sums_right_2 (Xd : Str → List D → Prop) : TSd :=
  dSeq (dSet 4 (dFr (dComp (dSeqIt (dVar 1)) (kName 3) (dYes) (dVar 3) [3]))) (t__law_sums_right_3 Xd)
def t__law_sums_right_1 (Xd : Str → List D → Prop) : TSd :=
  dSeq (dFor (dSeqIt (dVar 1)) (kName 3) (dSet 2 (dCall sp__law_plus (xcOf Xd) (dCons (dVar 2) (dCons (dVar 3) (dNil)))))) (t__law_sums_right_2 Xd)
def t__law_sums_right (Xd : Str → List D → Prop) : TSd :=
  dSeq (dSet 2 (dTup (dCons (dC (.int 0)) (dCons (dC (.int 1)) (dNil))))) (t__law_sums_right_1 Xd)
def t__law_text (Xd : Str → List D → Prop) : TSd :=
  dSeq (dIfS (dB (dOp rEq (dOp rIxD (dVar 0) (dC (.int 1))) (dC (.int 1)))) (dRet (dCB rStrT (dCons (dOp rIxD (dVar 0) (dC (.int 0))) (dNil)))) (dNext))
  (dRet (dOp rAdd (dOp rAdd (dCB rStrT (dCons (dOp rIxD (dVar 0) (dC (.int 0))) (dNil))) (dC (.str "/"))) (dCB rStrT (dCons (dOp rIxD (dVar 0) (dC (.int 1))) (dNil)))))
def t__law_truth (Xd : Str → List D → Prop) : TSd :=
  dRet (dAndV (dIsi (isB "bool") (dVar 0)) (dOp rEq (dVar 0) (dVar 1)))
def t__law_two_right_9 (Xd : Str → List D → Prop) : TSd :=
  dRet (dAndV (dOp rEq (dCall sp_minus (xcOf Xd) (dCons (dFr (dListOf (dCons (dVar 0) (dNil)))) (dCons (dFr (dListOf (dCons (dVar 1) (dNil)))) (dNil)))) (dVar 2)) (dOp rEq (dCall sp_write_ratio (xcOf Xd) (dCons (dFr (dListOf (dCons (dVar 1) (dNil)))) (dNil))) (dCall sp__law_text (xcOf Xd) (dCons (dVar 1) (dNil)))))
def t__law_two_right_8 (Xd : Str → List D → Prop) : TSd :=
  dSeq (dIfS (dOr (dNot (dB (dIsi (isB "str") (dVar 4)))) (dB (dOp rNe (dVar 4) (dCall sp__law_text (xcOf Xd) (dCons (dVar 0) (dNil)))))) (dRet (dC (.bl false))) (dNext)) (t__law_two_right_9 Xd)
def t__law_two_right_7 (Xd : Str → List D → Prop) : TSd :=
  dSeq (dSet 4 (dCall sp_write_ratio (xcOf Xd) (dCons (dVar 0) (dNil)))) (t__law_two_right_8 Xd)
def t__law_two_right_6 (Xd : Str → List D → Prop) : TSd :=
  dSeq (dIfS (dNot (dB (dCall sp__law_truth (xcOf Xd) (dCons (dCall sp_less (xcOf Xd) (dCons (dVar 0) (dCons (dVar 0) (dNil)))) (dCons (dC (.bl false)) (dNil)))))) (dRet (dC (.bl false))) (dNext)) (t__law_two_right_7 Xd)
def t__law_two_right_5 (Xd : Str → List D → Prop) : TSd :=
  dSeq (dIfS (dNot (dB (dCall sp__law_truth (xcOf Xd) (dCons (dCall sp_less (xcOf Xd) (dCons (dVar 1) (dCons (dVar 0) (dNil)))) (dCons (dOp rGtI (dOp rIxD (dVar 2) (dC (.int 0))) (dC (.int 0))) (dNil)))))) (dRet (dC (.bl false))) (dNext)) (t__law_two_right_6 Xd)
def t__law_two_right_4 (Xd : Str → List D → Prop) : TSd :=
  dSeq (dIfS (dNot (dB (dCall sp__law_truth (xcOf Xd) (dCons (dCall sp_less (xcOf Xd) (dCons (dVar 0) (dCons (dVar 1) (dNil)))) (dCons (dOp rLtI (dOp rIxD (dVar 2) (dC (.int 0))) (dC (.int 0))) (dNil)))))) (dRet (dC (.bl false))) (dNext)) (t__law_two_right_5 Xd)
def t__law_two_right_3 (Xd : Str → List D → Prop) : TSd :=
  dSeq (dIfS (dOr (dNot (dB (dCall (sp__law_plain 8) (xcOf Xd) (dCons (dVar 4) (dNil))))) (dB (dOp rNe (dVar 4) (dTup (dCons (dVar 2) (dCons (dVar 3) (dNil))))))) (dRet (dC (.bl false))) (dNext)) (t__law_two_right_4 Xd)
def t__law_two_right_2 (Xd : Str → List D → Prop) : TSd :=
  dSeq (dSet 4 (dTup (dCons (dCall sp_minus (xcOf Xd) (dCons (dVar 0) (dCons (dVar 1) (dNil)))) (dCons (dCall sp_times (xcOf Xd) (dCons (dVar 0) (dCons (dVar 1) (dNil)))) (dNil))))) (t__law_two_right_3 Xd)
def t__law_two_right_1 (Xd : Str → List D → Prop) : TSd :=
  dSeq (dSet 3 (dCall sp__law_ratio (xcOf Xd) (dCons (dOp rMul (dOp rIxD (dVar 0) (dC (.int 0))) (dOp rIxD (dVar 1) (dC (.int 0)))) (dCons (dOp rMul (dOp rIxD (dVar 0) (dC (.int 1))) (dOp rIxD (dVar 1) (dC (.int 1)))) (dNil))))) (t__law_two_right_2 Xd)
def t__law_two_right (Xd : Str → List D → Prop) : TSd :=
  dSeq (dSet 2 (dCall sp__law_plus (xcOf Xd) (dCons (dVar 0) (dCons (dTup (dCons (dUn (fun i => -i) (dOp rIxD (dVar 1) (dC (.int 0)))) (dCons (dOp rIxD (dVar 1) (dC (.int 1))) (dNil)))) (dNil))))) (t__law_two_right_1 Xd)
def t__law_algebra_6 (Xd : Str → List D → Prop) : TSd :=
  dRet (dAndV (dOp rEq (dCall sp_plus (xcOf Xd) (dCons (dVar 0) (dCons (dTup (dCons (dC (.int 0)) (dCons (dC (.int 1)) (dNil)))) (dNil)))) (dVar 0)) (dAndV (dOp rEq (dCall sp_times (xcOf Xd) (dCons (dVar 0) (dCons (dTup (dCons (dC (.int 1)) (dCons (dC (.int 1)) (dNil)))) (dNil)))) (dVar 0)) (dOp rEq (dCall sp_times (xcOf Xd) (dCons (dTup (dCons (dC (.int 0)) (dCons (dC (.int 1)) (dNil)))) (dCons (dVar 1) (dNil)))) (dTup (dCons (dC (.int 0)) (dCons (dC (.int 1)) (dNil)))))))
def t__law_algebra_5 (Xd : Str → List D → Prop) : TSd :=
  dSeq (dIfS (dNot (dB (dCall sp__law_truth (xcOf Xd) (dCons (dVar 4) (dCons (dCall sp_less (xcOf Xd) (dCons (dVar 0) (dCons (dVar 1) (dNil)))) (dNil)))))) (dRet (dC (.bl false))) (dNext)) (t__law_algebra_6 Xd)
def t__law_algebra_4 (Xd : Str → List D → Prop) : TSd :=
  dSeq (dSet 4 (dCall sp_less (xcOf Xd) (dCons (dCall sp_plus (xcOf Xd) (dCons (dVar 0) (dCons (dVar 2) (dNil)))) (dCons (dCall sp_plus (xcOf Xd) (dCons (dVar 1) (dCons (dVar 2) (dNil)))) (dNil))))) (t__law_algebra_5 Xd)
def t__law_algebra_3 (Xd : Str → List D → Prop) : TSd :=
  dSeq (dIfS (dB (dOp rNe (dCall sp_times (xcOf Xd) (dCons (dVar 0) (dCons (dCall sp_plus (xcOf Xd) (dCons (dVar 1) (dCons (dVar 2) (dNil)))) (dNil)))) (dVar 3))) (dRet (dC (.bl false))) (dNext)) (t__law_algebra_4 Xd)
def t__law_algebra_2 (Xd : Str → List D → Prop) : TSd :=
  dSeq (dSet 3 (dCall sp_plus (xcOf Xd) (dCons (dCall sp_times (xcOf Xd) (dCons (dVar 0) (dCons (dVar 1) (dNil)))) (dCons (dCall sp_times (xcOf Xd) (dCons (dVar 0) (dCons (dVar 2) (dNil)))) (dNil))))) (t__law_algebra_3 Xd)
def t__law_algebra_1 (Xd : Str → List D → Prop) : TSd :=
  dSeq (dIfS (dB (dOp rNe (dCall sp_plus (xcOf Xd) (dCons (dCall sp_minus (xcOf Xd) (dCons (dVar 0) (dCons (dVar 1) (dNil)))) (dCons (dVar 1) (dNil)))) (dVar 0))) (dRet (dC (.bl false))) (dNext)) (t__law_algebra_2 Xd)
def t__law_algebra (Xd : Str → List D → Prop) : TSd :=
  dSeq (dIfS (dB (dOp rNe (dCall sp_minus (xcOf Xd) (dCons (dCall sp_plus (xcOf Xd) (dCons (dVar 0) (dCons (dVar 1) (dNil)))) (dCons (dVar 1) (dNil)))) (dVar 0))) (dRet (dC (.bl false))) (dNext)) (t__law_algebra_1 Xd)
def t__law_odd_ratio (Xd : Str → List D → Prop) : TSd :=
  dSeq (dSet 1 (dCall sp__law_pick (xcOf Xd) (dCons (dVar 0) (dCons (dC (.int 8)) (dNil)))))
  (dSeq (dIfS (dB (dOp rLtI (dVar 1) (dC (.int 4)))) (dSeq (dSet 2 (dCall sp__law_choice (xcOf Xd) (dCons (dVar 0) (dCons (dFr (dLst (dCons (dC (.int 0)) (dCons (dC (.int 0)) (dCons (dC (.int 1)) (dCons (dUn (fun i => -i) (dC (.int 1))) (dCons (dC (.int 999)) (dCons (dUn (fun i => -i) (dC (.int 999))) (dCons (dC (.int 1000)) (dCons (dUn (fun i => -i) (dC (.int 1000))) (dCons (dC (.int 998)) (dCons (dC (.int 12)) (dCons (dUn (fun i => -i) (dC (.int 50))) (dCons (dC (.int 33)) (dCons (dC (.int 66)) (dCons (dOp rPow (dC (.int 10)) (dC (.int 30))) (dNil))))))))))))))))) (dNil)))))
  (dRet (dTup (dCons (dVar 2) (dCons (dCall sp__law_choice (xcOf Xd) (dCons (dVar 0) (dCons (dFr (dLst (dCons (dC (.int 1)) (dCons (dC (.int 1)) (dCons (dC (.int 2)) (dCons (dC (.int 99)) (dCons (dC (.int 98)) (dCons (dC (.int 100)) (dCons (dC (.int 0)) (dCons (dUn (fun i => -i) (dC (.int 1))) (dCons (dC (.int 7)) (dCons (dC (.int 3)) (dNil))))))))))))) (dNil)))) (dNil)))))) (dNext))
  (dSeq (dIfS (dB (dOp rLtI (dVar 1) (dC (.int 6)))) (dSeq (dSet 2 (dOp rSub (dCall sp__law_pick (xcOf Xd) (dCons (dVar 0) (dCons (dC (.int 2003)) (dNil)))) (dC (.int 1001))))
  (dRet (dTup (dCons (dVar 2) (dCons (dOp rSub (dCall sp__law_pick (xcOf Xd) (dCons (dVar 0) (dCons (dC (.int 103)) (dNil)))) (dC (.int 1))) (dNil)))))) (dNext))
  (dSeq (dSet 3 (dFr (dLst (dCons (dC .non) (dCons (dC (.bl true)) (dCons (dC (.int 7)) (dCons (dC (.str "12")) (dCons (dC (.str "1/2")) (dCons (dTup (dNil)) (dCons (dTup (dCons (dC (.int 1)) (dNil))) (dCons (dTup (dCons (dC (.int 1)) (dCons (dC (.int 2)) (dCons (dC (.int 3)) (dNil))))) (dCons (dTup (dCons (dC (.bl true)) (dCons (dC (.int 1)) (dNil)))) (dCons (dTup (dCons (dC (.int 1)) (dCons (dC (.bl true)) (dNil)))) (dCons (dTup (dCons (dC (.bl false)) (dCons (dC (.int 1)) (dNil)))) (dCons (dTup (dCons (dC (.str "1")) (dCons (dC (.int 2)) (dNil)))) (dCons (dTup (dCons (dC (.int 1)) (dCons (dC .non) (dNil)))) (dCons (dTup (dCons (dTup (dCons (dC (.int 1)) (dCons (dC (.int 2)) (dNil)))) (dCons (dC (.int 3)) (dNil)))) (dNil))))))))))))))))))
  (dRet (dCall sp__law_choice (xcOf Xd) (dCons (dVar 0) (dCons (dVar 3) (dNil))))))))
def t__law_ratio_fits (Xd : Str → List D → Prop) : TSd :=
  dSeq (dIfS (dOr (dNot (dB (dIsi (isB "tuple") (dVar 0)))) (dB (dOp rNe (dCB rLen (dCons (dVar 0) (dNil))) (dC (.int 2))))) (dRet (dC (.bl false))) (dNext))
  (dSeq (dIfS (dOr (dNot (dB (dCall sp__law_integer (xcOf Xd) (dCons (dOp rIxD (dVar 0) (dC (.int 0))) (dNil))))) (dNot (dB (dCall sp__law_integer (xcOf Xd) (dCons (dOp rIxD (dVar 0) (dC (.int 1))) (dNil)))))) (dRet (dC (.bl false))) (dNext))
  (dSeq (dIfS (dOr (dB (dOp rLtI (dOp rIxD (dVar 0) (dC (.int 0))) (dUn (fun i => -i) (dC (.int 999))))) (dOr (dB (dOp rGtI (dOp rIxD (dVar 0) (dC (.int 0))) (dC (.int 999)))) (dOr (dB (dOp rLtI (dOp rIxD (dVar 0) (dC (.int 1))) (dC (.int 1)))) (dB (dOp rGtI (dOp rIxD (dVar 0) (dC (.int 1))) (dC (.int 99))))))) (dRet (dC (.bl false))) (dNext))
  (dRet (dOp rEq (dCall sp__law_common (xcOf Xd) (dCons (dCB rAbs (dCons (dOp rIxD (dVar 0) (dC (.int 0))) (dNil))) (dCons (dOp rIxD (dVar 0) (dC (.int 1))) (dNil)))) (dC (.int 1))))))
def t__law_word_of_10 (Xd : Str → List D → Prop) : TSd :=
  dRet (dVar 2)
def t__law_word_of_9 (Xd : Str → List D → Prop) : TSd :=
  dSeq (dIfS (dB (dOp rEq (dVar 3) (dC (.int 3)))) (dSet 2 (dOp rAdd (dOp rAdd (dSl rSlD (dVar 2) (dNoPart) (dPart (dVar 4))) (dVar 5)) (dSl rSlD (dVar 2) (dPart (dOp rAdd (dVar 4) (dC (.int 1)))) (dNoPart)))) (dNext)) (t__law_word_of_10 Xd)
def t__law_word_of_8 (Xd : Str → List D → Prop) : TSd :=
  dSeq (dIfS (dB (dOp rEq (dVar 3) (dC (.int 2)))) (dSet 2 (dOp rAdd (dSl rSlD (dVar 2) (dNoPart) (dPart (dVar 4))) (dSl rSlD (dVar 2) (dPart (dOp rAdd (dVar 4) (dC (.int 1)))) (dNoPart)))) (dNext)) (t__law_word_of_9 Xd)
def t__law_word_of_7 (Xd : Str → List D → Prop) : TSd :=
  dSeq (dIfS (dB (dOp rEq (dVar 3) (dC (.int 1)))) (dSet 2 (dOp rAdd (dOp rAdd (dSl rSlD (dVar 2) (dNoPart) (dPart (dVar 4))) (dVar 5)) (dSl rSlD (dVar 2) (dPart (dVar 4)) (dNoPart)))) (dNext)) (t__law_word_of_8 Xd)
def t__law_word_of_6 (Xd : Str → List D → Prop) : TSd :=
  dSeq (dSet 5 (dCall sp__law_choice (xcOf Xd) (dCons (dVar 0) (dCons (dFr (dLst (dCons (dC (.str "a")) (dCons (dC (.str "z")) (dCons (dC (.str "m")) (dCons (dC (.str "s")) (dCons (dC (.str "A")) (dCons (dC (.str "Z")) (dCons (dC (.str "0")) (dCons (dC (.str "9")) (dCons (dC (.str "_")) (dCons (dC (.str " ")) (dCons (dC (.str "-")) (dCons (dC (.str "~")) (dCons (dC (.str "{")) (dCons (dC (.str "@")) (dNil))))))))))))))))) (dNil))))) (t__law_word_of_7 Xd)
def t__law_word_of_5 (Xd : Str → List D → Prop) : TSd :=
  dSeq (dSet 4 (dCall sp__law_pick (xcOf Xd) (dCons (dVar 0) (dCons (dOp rAdd (dCB rLen (dCons (dVar 2) (dNil))) (dC (.int 1))) (dNil))))) (t__law_word_of_6 Xd)
def t__law_word_of_4 (Xd : Str → List D → Prop) : TSd :=
  dSeq (dSet 3 (dCall sp__law_pick (xcOf Xd) (dCons (dVar 0) (dCons (dC (.int 7)) (dNil))))) (t__law_word_of_5 Xd)
def t__law_word_of_3 (Xd : Str → List D → Prop) : TSd :=
  dSeq (dIfS (dB (dOp rLtI (dVar 1) (dC (.int 4)))) (dSet 2 (dCall sp__law_choice (xcOf Xd) (dCons (dVar 0) (dCons (dCall sp__law_reserved (xcOf Xd) dNil) (dNil))))) (dNext)) (t__law_word_of_4 Xd)
def t__law_word_of_2 (Xd : Str → List D → Prop) : TSd :=
  dSeq (dSet 2 (dCall sp__law_spelled (xcOf Xd) (dCons (dVar 0) (dCons (dCall sp__law_pick (xcOf Xd) (dCons (dVar 0) (dCons (dC (.int 11)) (dNil)))) (dNil))))) (t__law_word_of_3 Xd)
def t__law_word_of_1 (Xd : Str → List D → Prop) : TSd :=
  dSeq (dIfS (dB (dOp rEq (dVar 1) (dC (.int 7)))) (dRet (dCall sp__law_choice (xcOf Xd) (dCons (dVar 0) (dCons (dFr (dLst (dCons (dC .non) (dCons (dC (.bl true)) (dCons (dC (.int 7)) (dCons (dTup (dCons (dC (.str "quality")) (dNil))) (dCons (dFr (dLst (dCons (dC (.str "q")) (dNil)))) (dCons (dTup (dNil)) (dCons (dOp rPow (dC (.int 10)) (dC (.int 30))) (dNil)))))))))) (dNil))))) (dNext)) (t__law_word_of_2 Xd)
def t__law_word_of (Xd : Str → List D → Prop) : TSd :=
  dSeq (dSet 1 (dCall sp__law_pick (xcOf Xd) (dCons (dVar 0) (dCons (dC (.int 8)) (dNil))))) (t__law_word_of_1 Xd)
def t__law_name_fits (Xd : Str → List D → Prop) : TSd :=
  dSeq (dIfS (dOr (dNot (dB (dIsi (isB "str") (dVar 0)))) (dB (dOp (rInS fun b => b) (dVar 0) (dCall sp__law_reserved (xcOf Xd) dNil)))) (dRet (dC (.bl false))) (dNext))
  (dSeq (dIfS (dOr (dB (dOp rLtI (dCB rLen (dCons (dVar 0) (dNil))) (dC (.int 1)))) (dB (dOp rGtI (dCB rLen (dCons (dVar 0) (dNil))) (dC (.int 8))))) (dRet (dC (.bl false))) (dNext))
  (dRet (dOp rEq (dFr (dComp (dSeqIt (dVar 0)) (kName 1) (dB (dOp (rInS fun b => !b) (dVar 1) (dC (.str "abcdefghijklmnopqrstuvwxyz")))) (dVar 1) [1])) (dFr (dLst (dNil))))))
def t__law_names_right (Xd : Str → List D → Prop) : TSd :=
  dSeq (dFor (dRange1 (dCons (dC (.int 4)) (dNil))) (kName 1) (dSeq (dSet 2 (dCall sp__law_word_of (xcOf Xd) (dCons (dVar 0) (dNil))))
  (dSeq (dIfS (dNot (dB (dCall sp__law_truth (xcOf Xd) (dCons (dCall sp_is_name (xcOf Xd) (dCons (dVar 2) (dNil))) (dCons (dCall sp__law_name_fits (xcOf Xd) (dCons (dVar 2) (dNil))) (dNil)))))) (dRet (dC (.bl false))) (dNext))
  (dSeq (dSet 2 (dCall sp__law_odd_ratio (xcOf Xd) (dCons (dVar 0) (dNil))))
  (dSeq (dIfS (dNot (dB (dCall sp__law_truth (xcOf Xd) (dCons (dCall sp_is_ratio (xcOf Xd) (dCons (dVar 2) (dNil))) (dCons (dCall sp__law_ratio_fits (xcOf Xd) (dCons (dVar 2) (dNil))) (dNil)))))) (dRet (dC (.bl false))) (dNext))
  (dIfS (dNot (dB (dCall sp__law_truth (xcOf Xd) (dCons (dCall sp_is_ratio (xcOf Xd) (dCons (dCall (sp__law_lists 8) (xcOf Xd) (dCons (dVar 2) (dNil))) (dNil))) (dCons (dCall sp__law_ratio_fits (xcOf Xd) (dCons (dVar 2) (dNil))) (dNil)))))) (dRet (dC (.bl false))) (dNext)))))))
  (dSeq (dFor (dSeqIt (dCall sp__law_reserved (xcOf Xd) dNil)) (kName 3) (dIfS (dB (dOp (rBl2 fun i j => !decide (i = j)) (dCall sp_is_name (xcOf Xd) (dCons (dVar 3) (dNil))) (dC (.bl false)))) (dRet (dC (.bl false))) (dNext)))
  (dRet (dAndV (dIsi (isB "tuple") (dC cWORDS)) (dAndV (dCall (sp__law_plain 8) (xcOf Xd) (dCons (dC cWORDS) (dNil))) (dOp rEq (dFr (dListOf (dCons (dC cWORDS) (dNil)))) (dCall sp__law_reserved (xcOf Xd) dNil))))))
def t_law_11 (Xd : Str → List D → Prop) : TSd :=
  dRet (dCall sp__law_names_right (xcOf Xd) (dCons (dVar 1) (dNil)))
def t_law_10 (Xd : Str → List D → Prop) : TSd :=
  dSeq (dIfS (dNot (dB (dCall sp__law_made_right (xcOf Xd) (dCons (dVar 1) (dCons (dVar 2) (dNil)))))) (dRet (dC (.bl false))) (dNext)) (t_law_11 Xd)
def t_law_9 (Xd : Str → List D → Prop) : TSd :=
  dSeq (dIfS (dAnd (dB (dOp rLtI (dVar 2) (dC (.int 3)))) (dNot (dB (dCall sp__law_algebra (xcOf Xd) (dCons (dVar 4) (dCons (dVar 5) (dCons (dCall sp__law_drawn (xcOf Xd) (dCons (dVar 1) (dCons (dVar 2) (dNil)))) (dNil)))))))) (dRet (dC (.bl false))) (dNext)) (t_law_10 Xd)
def t_law_8 (Xd : Str → List D → Prop) : TSd :=
  dSeq (dIfS (dOr (dNot (dB (dCall sp__law_sums_right (xcOf Xd) (dCons (dVar 1) (dCons (dVar 3) (dNil)))))) (dNot (dB (dCall sp__law_two_right (xcOf Xd) (dCons (dVar 4) (dCons (dVar 5) (dNil))))))) (dRet (dC (.bl false))) (dNext)) (t_law_9 Xd)
def t_law_7 (Xd : Str → List D → Prop) : TSd :=
  dSeq (dIfS (dB (dOp rEq (dVar 6) (dC (.int 2)))) (dSet 5 (dTup (dCons (dOp rIxD (dVar 4) (dC (.int 0))) (dCons (dC (.int 1)) (dNil))))) (dNext)) (t_law_8 Xd)
def t_law_6 (Xd : Str → List D → Prop) : TSd :=
  dSeq (dIfS (dB (dOp rEq (dVar 6) (dC (.int 1)))) (dSet 5 (dTup (dCons (dUn (fun i => -i) (dOp rIxD (dVar 4) (dC (.int 0)))) (dCons (dOp rIxD (dVar 4) (dC (.int 1))) (dNil))))) (dNext)) (t_law_7 Xd)
def t_law_5 (Xd : Str → List D → Prop) : TSd :=
  dSeq (dIfS (dB (dOp rEq (dVar 6) (dC (.int 0)))) (dSet 5 (dVar 4)) (dNext)) (t_law_6 Xd)
def t_law_4 (Xd : Str → List D → Prop) : TSd :=
  dSeq (dSet 6 (dCall sp__law_pick (xcOf Xd) (dCons (dVar 1) (dCons (dC (.int 6)) (dNil))))) (t_law_5 Xd)
def t_law_3 (Xd : Str → List D → Prop) : TSd :=
  dSeq (dSet 5 (dCall sp__law_drawn (xcOf Xd) (dCons (dVar 1) (dCons (dVar 2) (dNil))))) (t_law_4 Xd)
def t_law_2 (Xd : Str → List D → Prop) : TSd :=
  dSeq (dSet 4 (dCall sp__law_drawn (xcOf Xd) (dCons (dVar 1) (dCons (dVar 2) (dNil))))) (t_law_3 Xd)
def t_law_1 (Xd : Str → List D → Prop) : TSd :=
  dSeq (dSet 3 (dFr (dComp (dRange1 (dCons (dCall sp__law_pick (xcOf Xd) (dCons (dVar 1) (dCons (dC (.int 7)) (dNil)))) (dNil))) (kName 7) (dYes) (dCall sp__law_drawn noX (dCons (dVar 1) (dCons (dVar 2) (dNil)))) [7]))) (t_law_2 Xd)
def t_law (Xd : Str → List D → Prop) : TSd :=
  dSeq (dSet 2 (dCall sp__law_choice (xcOf Xd) (dCons (dVar 1) (dCons (dFr (dLst (dCons (dC (.int 0)) (dCons (dC (.int 0)) (dCons (dC (.int 1)) (dCons (dC (.int 1)) (dCons (dC (.int 2)) (dCons (dC (.int 3)) (dNil))))))))) (dNil))))) (t_law_1 Xd)
end K01

set_option Elab.async false
set_option linter.all false
set_option maxRecDepth 100000
set_option maxHeartbeats 4000000
namespace K01
open PySem PySem.Spec PyProof.Rows L2 DL
def top (i : Nat) : Stmt := PySem.Challenge.pw_strawbench_k01_ratios_and_names.main.body.getD i (.Pass ⟨0, 0, 0, 0⟩)
abbrev s_is_name : Stmt := top 7
abbrev N_is_name : List Str := ["thing", "one"]
abbrev P_is_name : List Str := ["thing"]
theorem sc_is_name : FnScope N_is_name P_is_name (defScope s_is_name) := ⟨rfl, rfl, rfl, by decide +kernel, rfl, by decide +kernel, by decide +kernel⟩
abbrev s_is_integer : Stmt := top 8
abbrev N_is_integer : List Str := ["thing", "low", "high"]
abbrev P_is_integer : List Str := ["thing", "low", "high"]
theorem sc_is_integer : FnScope N_is_integer P_is_integer (defScope s_is_integer) := ⟨rfl, rfl, rfl, by decide +kernel, rfl, by decide +kernel, by decide +kernel⟩
abbrev s_deep : Stmt := top 9
abbrev N_deep : List Str := ["thing", "one"]
abbrev P_deep : List Str := ["thing"]
theorem sc_deep : FnScope N_deep P_deep (defScope s_deep) := ⟨rfl, rfl, rfl, by decide +kernel, rfl, by decide +kernel, by decide +kernel⟩
abbrev s_common : Stmt := top 11
abbrev N_common : List Str := ["first", "second"]
abbrev P_common : List Str := ["first", "second"]
theorem sc_common : FnScope N_common P_common (defScope s_common) := ⟨rfl, rfl, rfl, by decide +kernel, rfl, by decide +kernel, by decide +kernel⟩
abbrev s_ratio : Stmt := top 12
abbrev N_ratio : List Str := ["top", "bottom", "shared"]
abbrev P_ratio : List Str := ["top", "bottom"]
theorem sc_ratio : FnScope N_ratio P_ratio (defScope s_ratio) := ⟨rfl, rfl, rfl, by decide +kernel, rfl, by decide +kernel, by decide +kernel⟩
abbrev s_rate_of : Stmt := top 13
abbrev N_rate_of : List Str := ["thing", "told"]
abbrev P_rate_of : List Str := ["thing"]
theorem sc_rate_of : FnScope N_rate_of P_rate_of (defScope s_rate_of) := ⟨rfl, rfl, rfl, by decide +kernel, rfl, by decide +kernel, by decide +kernel⟩
abbrev s_is_ratio : Stmt := top 14
abbrev N_is_ratio : List Str := ["thing"]
abbrev P_is_ratio : List Str := ["thing"]
theorem sc_is_ratio : FnScope N_is_ratio P_is_ratio (defScope s_is_ratio) := ⟨rfl, rfl, rfl, by decide +kernel, rfl, by decide +kernel, by decide +kernel⟩
abbrev s_plus : Stmt := top 15
abbrev N_plus : List Str := ["ratios", "top", "bottom", "one"]
abbrev P_plus : List Str := ["ratios"]
theorem sc_plus : FnScope N_plus P_plus (defScope s_plus) := ⟨rfl, rfl, rfl, by decide +kernel, rfl, by decide +kernel, by decide +kernel⟩
abbrev s_minus : Stmt := top 16
abbrev N_minus : List Str := ["first", "second"]
abbrev P_minus : List Str := ["first", "second"]
theorem sc_minus : FnScope N_minus P_minus (defScope s_minus) := ⟨rfl, rfl, rfl, by decide +kernel, rfl, by decide +kernel, by decide +kernel⟩
abbrev s_times : Stmt := top 17
abbrev N_times : List Str := ["first", "second"]
abbrev P_times : List Str := ["first", "second"]
theorem sc_times : FnScope N_times P_times (defScope s_times) := ⟨rfl, rfl, rfl, by decide +kernel, rfl, by decide +kernel, by decide +kernel⟩
abbrev s_less : Stmt := top 18
abbrev N_less : List Str := ["first", "second"]
abbrev P_less : List Str := ["first", "second"]
theorem sc_less : FnScope N_less P_less (defScope s_less) := ⟨rfl, rfl, rfl, by decide +kernel, rfl, by decide +kernel, by decide +kernel⟩
abbrev s_write_ratio : Stmt := top 19
abbrev N_write_ratio : List Str := ["ratio_told"]
abbrev P_write_ratio : List Str := ["ratio_told"]
theorem sc_write_ratio : FnScope N_write_ratio P_write_ratio (defScope s_write_ratio) := ⟨rfl, rfl, rfl, by decide +kernel, rfl, by decide +kernel, by decide +kernel⟩
abbrev s__law_choice : Stmt := top 23
abbrev N__law_choice : List Str := ["bag", "things"]
abbrev P__law_choice : List Str := ["bag", "things"]
theorem sc__law_choice : FnScope N__law_choice P__law_choice (defScope s__law_choice) := ⟨rfl, rfl, rfl, by decide +kernel, rfl, by decide +kernel, by decide +kernel⟩
abbrev s__law_one_in : Stmt := top 24
abbrev N__law_one_in : List Str := ["bag", "many"]
abbrev P__law_one_in : List Str := ["bag", "many"]
theorem sc__law_one_in : FnScope N__law_one_in P__law_one_in (defScope s__law_one_in) := ⟨rfl, rfl, rfl, by decide +kernel, rfl, by decide +kernel, by decide +kernel⟩
abbrev s__law_shuffled : Stmt := top 25
abbrev N__law_shuffled : List Str := ["bag", "things", "rest", "row", "k"]
abbrev P__law_shuffled : List Str := ["bag", "things"]
theorem sc__law_shuffled : FnScope N__law_shuffled P__law_shuffled (defScope s__law_shuffled) := ⟨rfl, rfl, rfl, by decide +kernel, rfl, by decide +kernel, by decide +kernel⟩
abbrev s__law_integer : Stmt := top 26
abbrev N__law_integer : List Str := ["thing"]
abbrev P__law_integer : List Str := ["thing"]
theorem sc__law_integer : FnScope N__law_integer P__law_integer (defScope s__law_integer) := ⟨rfl, rfl, rfl, by decide +kernel, rfl, by decide +kernel, by decide +kernel⟩
abbrev s__law_plain : Stmt := top 27
abbrev N__law_plain : List Str := ["thing", "one"]
abbrev P__law_plain : List Str := ["thing"]
theorem sc__law_plain : FnScope N__law_plain P__law_plain (defScope s__law_plain) := ⟨rfl, rfl, rfl, by decide +kernel, rfl, by decide +kernel, by decide +kernel⟩
abbrev s__law_lists : Stmt := top 28
abbrev N__law_lists : List Str := ["thing", "one"]
abbrev P__law_lists : List Str := ["thing"]
theorem sc__law_lists : FnScope N__law_lists P__law_lists (defScope s__law_lists) := ⟨rfl, rfl, rfl, by decide +kernel, rfl, by decide +kernel, by decide +kernel⟩
abbrev s__law_tuples : Stmt := top 29
abbrev N__law_tuples : List Str := ["thing", "one"]
abbrev P__law_tuples : List Str := ["thing"]
theorem sc__law_tuples : FnScope N__law_tuples P__law_tuples (defScope s__law_tuples) := ⟨rfl, rfl, rfl, by decide +kernel, rfl, by decide +kernel, by decide +kernel⟩
abbrev s__law_spelled : Stmt := top 30
abbrev N__law_spelled : List Str := ["bag", "many", "k"]
abbrev P__law_spelled : List Str := ["bag", "many"]
theorem sc__law_spelled : FnScope N__law_spelled P__law_spelled (defScope s__law_spelled) := ⟨rfl, rfl, rfl, by decide +kernel, rfl, by decide +kernel, by decide +kernel⟩
abbrev s__law_reserved : Stmt := top 31
abbrev N__law_reserved : List Str := ["told"]
abbrev P__law_reserved : List Str := []
theorem sc__law_reserved : FnScope N__law_reserved P__law_reserved (defScope s__law_reserved) := ⟨rfl, rfl, rfl, by decide +kernel, rfl, by decide +kernel, by decide +kernel⟩
abbrev s__law_common : Stmt := top 32
abbrev N__law_common : List Str := ["first", "second"]
abbrev P__law_common : List Str := ["first", "second"]
theorem sc__law_common : FnScope N__law_common P__law_common (defScope s__law_common) := ⟨rfl, rfl, rfl, by decide +kernel, rfl, by decide +kernel, by decide +kernel⟩
abbrev s__law_ratio : Stmt := top 33
abbrev N__law_ratio : List Str := ["top", "under", "shared"]
abbrev P__law_ratio : List Str := ["top", "under"]
theorem sc__law_ratio : FnScope N__law_ratio P__law_ratio (defScope s__law_ratio) := ⟨rfl, rfl, rfl, by decide +kernel, rfl, by decide +kernel, by decide +kernel⟩
abbrev s__law_plus : Stmt := top 34
abbrev N__law_plus : List Str := ["first", "second"]
abbrev P__law_plus : List Str := ["first", "second"]
theorem sc__law_plus : FnScope N__law_plus P__law_plus (defScope s__law_plus) := ⟨rfl, rfl, rfl, by decide +kernel, rfl, by decide +kernel, by decide +kernel⟩
abbrev s__law_number_of : Stmt := top 35
abbrev N__law_number_of : List Str := ["bag", "size", "most"]
abbrev P__law_number_of : List Str := ["bag", "size"]
theorem sc__law_number_of : FnScope N__law_number_of P__law_number_of (defScope s__law_number_of) := ⟨rfl, rfl, rfl, by decide +kernel, rfl, by decide +kernel, by decide +kernel⟩
abbrev s__law_drawn : Stmt := top 36
abbrev N__law_drawn : List Str := ["bag", "size", "top"]
abbrev P__law_drawn : List Str := ["bag", "size"]
theorem sc__law_drawn : FnScope N__law_drawn P__law_drawn (defScope s__law_drawn) := ⟨rfl, rfl, rfl, by decide +kernel, rfl, by decide +kernel, by decide +kernel⟩
abbrev s__law_made : Stmt := top 37
abbrev N__law_made : List Str := ["top", "low", "found", "error", "base"]
abbrev P__law_made : List Str := ["top", "low"]
theorem sc__law_made : FnScope N__law_made P__law_made (defScope s__law_made) := ⟨rfl, rfl, rfl, by decide +kernel, rfl, by decide +kernel, by decide +kernel⟩
abbrev s__law_made_right : Stmt := top 38
abbrev N__law_made_right : List Str := ["bag", "size", "top", "low", "due", "found", "whole"]
abbrev P__law_made_right : List Str := ["bag", "size"]
theorem sc__law_made_right : FnScope N__law_made_right P__law_made_right (defScope s__law_made_right) := ⟨rfl, rfl, rfl, by decide +kernel, rfl, by decide +kernel, by decide +kernel⟩
abbrev s__law_sum : Stmt := top 39
abbrev N__law_sum : List Str := ["rows"]
abbrev P__law_sum : List Str := ["rows"]
theorem sc__law_sum : FnScope N__law_sum P__law_sum (defScope s__law_sum) := ⟨rfl, rfl, rfl, by decide +kernel, rfl, by decide +kernel, by decide +kernel⟩
abbrev s__law_sums_right : Stmt := top 40
abbrev N__law_sums_right : List Str := ["bag", "rows", "due", "row", "handed", "kept", "found", "other"]
abbrev P__law_sums_right : List Str := ["bag", "rows"]
theorem sc__law_sums_right : FnScope N__law_sums_right P__law_sums_right (defScope s__law_sums_right) := ⟨rfl, rfl, rfl, by decide +kernel, rfl, by decide +kernel, by decide +kernel⟩
abbrev s__law_text : Stmt := top 41
abbrev N__law_text : List Str := ["told"]
abbrev P__law_text : List Str := ["told"]
theorem sc__law_text : FnScope N__law_text P__law_text (defScope s__law_text) := ⟨rfl, rfl, rfl, by decide +kernel, rfl, by decide +kernel, by decide +kernel⟩
abbrev s__law_truth : Stmt := top 42
abbrev N__law_truth : List Str := ["found", "due"]
abbrev P__law_truth : List Str := ["found", "due"]
theorem sc__law_truth : FnScope N__law_truth P__law_truth (defScope s__law_truth) := ⟨rfl, rfl, rfl, by decide +kernel, rfl, by decide +kernel, by decide +kernel⟩
abbrev s__law_two_right : Stmt := top 43
abbrev N__law_two_right : List Str := ["one", "two", "gap", "product", "found"]
abbrev P__law_two_right : List Str := ["one", "two"]
theorem sc__law_two_right : FnScope N__law_two_right P__law_two_right (defScope s__law_two_right) := ⟨rfl, rfl, rfl, by decide +kernel, rfl, by decide +kernel, by decide +kernel⟩
abbrev s__law_algebra : Stmt := top 44
abbrev N__law_algebra : List Str := ["one", "two", "third", "spread", "raised"]
abbrev P__law_algebra : List Str := ["one", "two", "third"]
theorem sc__law_algebra : FnScope N__law_algebra P__law_algebra (defScope s__law_algebra) := ⟨rfl, rfl, rfl, by decide +kernel, rfl, by decide +kernel, by decide +kernel⟩
abbrev s__law_odd_ratio : Stmt := top 45
abbrev N__law_odd_ratio : List Str := ["bag", "way", "top", "odd"]
abbrev P__law_odd_ratio : List Str := ["bag"]
theorem sc__law_odd_ratio : FnScope N__law_odd_ratio P__law_odd_ratio (defScope s__law_odd_ratio) := ⟨rfl, rfl, rfl, by decide +kernel, rfl, by decide +kernel, by decide +kernel⟩
abbrev s__law_ratio_fits : Stmt := top 46
abbrev N__law_ratio_fits : List Str := ["thing"]
abbrev P__law_ratio_fits : List Str := ["thing"]
theorem sc__law_ratio_fits : FnScope N__law_ratio_fits P__law_ratio_fits (defScope s__law_ratio_fits) := ⟨rfl, rfl, rfl, by decide +kernel, rfl, by decide +kernel, by decide +kernel⟩
abbrev s__law_word_of : Stmt := top 47
abbrev N__law_word_of : List Str := ["bag", "way", "word", "spoil", "at", "sign"]
abbrev P__law_word_of : List Str := ["bag"]
theorem sc__law_word_of : FnScope N__law_word_of P__law_word_of (defScope s__law_word_of) := ⟨rfl, rfl, rfl, by decide +kernel, rfl, by decide +kernel, by decide +kernel⟩
abbrev s__law_name_fits : Stmt := top 48
abbrev N__law_name_fits : List Str := ["thing", "sign"]
abbrev P__law_name_fits : List Str := ["thing"]
theorem sc__law_name_fits : FnScope N__law_name_fits P__law_name_fits (defScope s__law_name_fits) := ⟨rfl, rfl, rfl, by decide +kernel, rfl, by decide +kernel, by decide +kernel⟩
abbrev s__law_names_right : Stmt := top 49
abbrev N__law_names_right : List Str := ["bag", "k", "thing", "word"]
abbrev P__law_names_right : List Str := ["bag"]
theorem sc__law_names_right : FnScope N__law_names_right P__law_names_right (defScope s__law_names_right) := ⟨rfl, rfl, rfl, by decide +kernel, rfl, by decide +kernel, by decide +kernel⟩
abbrev s_law : Stmt := top 50
abbrev N_law : List Str := ["script", "bag", "size", "rows", "one", "two", "way", "k"]
abbrev P_law : List Str := ["script"]
theorem sc_law : FnScope N_law P_law (defScope s_law) := ⟨rfl, rfl, rfl, by decide +kernel, rfl, by decide +kernel, by decide +kernel⟩
structure Tx (K : PySem.W.Frag) (mg : Str → Option Value) (cls : Str → Option Addr) (flds : Str → List Str) (aBR : Addr) (aSE : Addr) (aBF : Addr) : Prop where
  b_isinstance : mg "isinstance" = none
  b_str : mg "str" = none
  b_len : mg "len" = none
  b_all : mg "all" = none
  b_int : mg "int" = none
  b_bool : mg "bool" = none
  b_tuple : mg "tuple" = none
  b_list : mg "list" = none
  b_abs : mg "abs" = none
  b_range : mg "range" = none
  b_ValueError : mg "ValueError" = none
  c_WORDS : Cn K mg cls flds "WORDS" cWORDS
  c_LETTERS : Cn K mg cls flds "LETTERS" cLETTERS
  g_BadRatio : mg "BadRatio" = some (.ref aBR)
  g_StrawError : mg "StrawError" = some (.ref aSE)
  g_BadFace : mg "BadFace" = some (.ref aBF)
  k_BadRatio : cls "BadRatio" = some aBR
  f_BadRatio : XfC K aBR
  nd_BadRatio : (flds "BadRatio").Nodup
  a_BadRatio_top : PySem.W.findIn K (.ref aBR) "top" = some none
  h_BadRatio_top : (flds "BadRatio")[1]? = some ("top" : Str)
  a_BadRatio_bottom : PySem.W.findIn K (.ref aBR) "bottom" = some none
  h_BadRatio_bottom : (flds "BadRatio")[0]? = some ("bottom" : Str)
  m_BadRatio : ∀ n b C, m_BadRatio n = some b → cls n = some C → PySem.W.exmOne K (.ref C) (.ref aBR) = some b
  m_StrawError : ∀ n b C, m_StrawError n = some b → cls n = some C → PySem.W.exmOne K (.ref C) (.ref aSE) = some b
  i_StrawError : ∀ c b D, is_StrawError c = some b → cls c = some D → ExcC K D ∧ PySem.W.kitOne K (.ref D) (.ref aSE) = some b
  i_ValueError : ∀ c b D, is_ValueError c = some b → cls c = some D → ExcC K D ∧ PySem.W.kitOne K (.ref D) (.type "ValueError") = some b
  i_BadFace : ∀ c b D, is_BadFace c = some b → cls c = some D → ExcC K D ∧ PySem.W.kitOne K (.ref D) (.ref aBF) = some b
section
variable {P : Program} {w : World} {K : PySem.W.Frag} {mg : Str → Option Value} {base : Heap} {cls : Str → Option Addr} {flds : Str → List Str} {k : Nat}
theorem d_is_name {f : Addr} {aBR : Addr} {aSE : Addr} {aBF : Addr} (T : Tx K mg cls flds aBR aSE aBF) (Fr : Frm) (Xd : Str → List D → Prop) (cdv : Value) (A : Around) (outer : List Env) (s : Shared) (H : Hp) (E : XK) (hr : Room k (A.deeper (envOfC "is_name" (defScope s_is_name) s.heap.objs.size f cdv))) (tk : Takes (cxOf (L2.CX P w) P w K mg base N_is_name "is_name" (defScope s_is_name) f cdv A outer s H E) (LW ⟨K, cls, flds⟩ Fr fun c es _ => Xd c es)) :
    PDSs ⟨K, cls, flds⟩ Fr (cxOf (L2.CX P w) P w K mg base N_is_name "is_name" (defScope s_is_name) f cdv A outer s H E) (defBody s_is_name) (t_is_name Xd) := by
  have nd := (sc_is_name).nd
  have pas : PassesOwn (model P w) (cxOf (L2.CX P w) P w K mg base N_is_name "is_name" (defScope s_is_name) f cdv A outer s H E).A (cxOf (L2.CX P w) P w K mg base N_is_name "is_name" (defScope s_is_name) f cdv A outer s H E).env (cxOf (L2.CX P w) P w K mg base N_is_name "is_name" (defScope s_is_name) f cdv A outer s H E).xe := passes_of rfl
  exact pdss_cons (pds_if (PDW.pdt (pdw_or (pdt_not (pdt_val (pd_isi (T := "str") rfl T.b_isinstance rfl T.b_str PyProof.Rows.boot_str (pd_var 0 (pv 0))))) (pdw_or (pdt_not (pdt_leLe (pd_int) (pd_len rfl T.b_len (pda_cons (pd_var 0 (pv 0)) (pda_nil))) (pd_int))) (pdw_or1 (pdt_in hr (pd_var 0 (pv 0)) (pd_const T.c_WORDS rfl)))))) (pdss_one (pds_ret (pd_bl))) (pdss_nil))
      (pdss_one (pds_ret (pd_callB (cD_bls rfl) (cr_all rfl) rfl T.b_all (by decide +kernel) (pda_cons (pd_fresh (pdf_comp (own := [("one", 1)]) rfl nd (pdi_seq (pd_var 0 (pv 0))) (blkOk_by (N := N_is_name) (sc := defScope s_is_name) (by decide +kernel)) (fun _ _ _ _ _ _ => pdg_name (i := 1) nd rfl (by first | exact .inl rfl | exact .inr rfl)) (fun _ _ _ _ _ _ => pdts_nil) (fun _ _ _ _ _ _ => pd_in hr (pd_var 1 (pv 1)) (pd_const T.c_LETTERS rfl)))) (pda_nil)))))
theorem d_is_integer {f : Addr} {aBR : Addr} {aSE : Addr} {aBF : Addr} (T : Tx K mg cls flds aBR aSE aBF) (Fr : Frm) (Xd : Str → List D → Prop) (cdv : Value) (A : Around) (outer : List Env) (s : Shared) (H : Hp) (E : XK) (hr : Room k (A.deeper (envOfC "is_integer" (defScope s_is_integer) s.heap.objs.size f cdv))) (tk : Takes (cxOf (L2.CX P w) P w K mg base N_is_integer "is_integer" (defScope s_is_integer) f cdv A outer s H E) (LW ⟨K, cls, flds⟩ Fr fun c es _ => Xd c es)) :
    PDSs ⟨K, cls, flds⟩ Fr (cxOf (L2.CX P w) P w K mg base N_is_integer "is_integer" (defScope s_is_integer) f cdv A outer s H E) (defBody s_is_integer) (t_is_integer Xd) := by
  have nd := (sc_is_integer).nd
  have pas : PassesOwn (model P w) (cxOf (L2.CX P w) P w K mg base N_is_integer "is_integer" (defScope s_is_integer) f cdv A outer s H E).A (cxOf (L2.CX P w) P w K mg base N_is_integer "is_integer" (defScope s_is_integer) f cdv A outer s H E).env (cxOf (L2.CX P w) P w K mg base N_is_integer "is_integer" (defScope s_is_integer) f cdv A outer s H E).xe := passes_of rfl
  exact pdss_one (pds_ret (pd_and (pd_isi (T := "int") rfl T.b_isinstance rfl T.b_int PyProof.Rows.boot_int (pd_var 0 (pv 0))) (pd_and (pd_not (pd_isi (T := "bool") rfl T.b_isinstance rfl T.b_bool PyProof.Rows.boot_bool (pd_var 0 (pv 0)))) (pd_one (pd_leLe (pd_var 1 (pv 1)) (pd_var 0 (pv 0)) (pd_var 2 (pv 2)))))))
theorem d_deep {spr : SpD} {f : Addr} {aBR : Addr} {aSE : Addr} {aBF : Addr} (T : Tx K mg cls flds aBR aSE aBF) (C_deep_r : Cal P w K mg base cls flds k "deep" spr) (Fr : Frm) (Xd : Str → List D → Prop) (cdv : Value) (A : Around) (outer : List Env) (s : Shared) (H : Hp) (E : XK) (hr : Room k (A.deeper (envOfC "deep" (defScope s_deep) s.heap.objs.size f cdv))) (tk : Takes (cxOf (L2.CX P w) P w K mg base N_deep "deep" (defScope s_deep) f cdv A outer s H E) (LW ⟨K, cls, flds⟩ Fr fun c es _ => Xd c es)) :
    PDSs ⟨K, cls, flds⟩ Fr (cxOf (L2.CX P w) P w K mg base N_deep "deep" (defScope s_deep) f cdv A outer s H E) (defBody s_deep) (t_deep spr Xd) := by
  have nd := (sc_deep).nd
  have pas : PassesOwn (model P w) (cxOf (L2.CX P w) P w K mg base N_deep "deep" (defScope s_deep) f cdv A outer s H E).A (cxOf (L2.CX P w) P w K mg base N_deep "deep" (defScope s_deep) f cdv A outer s H E).env (cxOf (L2.CX P w) P w K mg base N_deep "deep" (defScope s_deep) f cdv A outer s H E).xe := passes_of rfl
  exact pdss_cons (pds_if (pdt_val (pd_isi2 (T1 := "tuple") (T2 := "list") rfl T.b_isinstance rfl T.b_tuple PyProof.Rows.boot_tuple rfl T.b_list PyProof.Rows.boot_list (pd_var 0 (pv 0)))) (pdss_one (pds_ret (pd_callTy (cD_tup rfl) call_tuple_of rfl T.b_tuple PyProof.Rows.boot_tuple (pda_cons (pd_fresh (pdf_comp (own := [("one", 1)]) rfl nd (pdi_seq (pd_var 0 (pv 0))) (blkOk_by (N := N_deep) (sc := defScope s_deep) (by decide +kernel)) (fun _ _ _ _ _ _ => pdg_name (i := 1) nd rfl (by first | exact .inl rfl | exact .inr rfl)) (fun _ _ _ _ _ _ => pdts_nil) (fun _ _ _ _ _ _ => pd_cal C_deep_r hr rfl takesNo (pda_cons (pd_var 1 (pv 1)) (pda_nil))))) (pda_nil))))) (pdss_nil))
      (pdss_one (pds_ret (pd_var 0 (pv 0))))
theorem d_common {f : Addr} {aBR : Addr} {aSE : Addr} {aBF : Addr} (T : Tx K mg cls flds aBR aSE aBF) (Fr : Frm) (Xd : Str → List D → Prop) (cdv : Value) (A : Around) (outer : List Env) (s : Shared) (H : Hp) (E : XK) (hr : Room k (A.deeper (envOfC "common" (defScope s_common) s.heap.objs.size f cdv))) (tk : Takes (cxOf (L2.CX P w) P w K mg base N_common "common" (defScope s_common) f cdv A outer s H E) (LW ⟨K, cls, flds⟩ Fr fun c es _ => Xd c es)) :
    PDSs ⟨K, cls, flds⟩ Fr (cxOf (L2.CX P w) P w K mg base N_common "common" (defScope s_common) f cdv A outer s H E) (defBody s_common) (t_common Xd) := by
  have nd := (sc_common).nd
  have pas : PassesOwn (model P w) (cxOf (L2.CX P w) P w K mg base N_common "common" (defScope s_common) f cdv A outer s H E).A (cxOf (L2.CX P w) P w K mg base N_common "common" (defScope s_common) f cdv A outer s H E).env (cxOf (L2.CX P w) P w K mg base N_common "common" (defScope s_common) f cdv A outer s H E).xe := passes_of rfl
  exact pdss_cons (pds_while pas (pdt_gt (pd_var 1 (pv 1)) (pd_int)) (pdss_one (pds_par (i := 0) (j := 1) rfl nd rfl rfl (by decide) rfl rfl (pda_cons (pd_var 1 (pv 1)) (pda_cons (pd_mod (pd_var 0 (pv 0)) (pd_var 1 (pv 1))) (pda_nil))))))
      (pdss_one (pds_ret (pd_var 0 (pv 0))))
theorem d_ratio {spr : SpD} {f : Addr} {aBR : Addr} {aSE : Addr} {aBF : Addr} (T : Tx K mg cls flds aBR aSE aBF) (C_ratio_r : Cal P w K mg base cls flds k "ratio" spr) (C_common : Cal P w K mg base cls flds k "common" sp_common) (M_BadRatio : XMk P w K mg base cls flds "BadRatio" ["top", "bottom"]) (Fr : Frm) (Xd : Str → List D → Prop) (cdv : Value) (A : Around) (outer : List Env) (s : Shared) (H : Hp) (E : XK) (hr : Room k (A.deeper (envOfC "ratio" (defScope s_ratio) s.heap.objs.size f cdv))) (hr2 : Room 2 (A.deeper (envOfC "ratio" (defScope s_ratio) s.heap.objs.size f cdv))) (tk : Takes (cxOf (L2.CX P w) P w K mg base N_ratio "ratio" (defScope s_ratio) f cdv A outer s H E) (LW ⟨K, cls, flds⟩ Fr fun c es _ => Xd c es)) :
    PDSs ⟨K, cls, flds⟩ Fr (cxOf (L2.CX P w) P w K mg base N_ratio "ratio" (defScope s_ratio) f cdv A outer s H E) (defBody s_ratio) (t_ratio spr Xd) := by
  have nd := (sc_ratio).nd
  have pas : PassesOwn (model P w) (cxOf (L2.CX P w) P w K mg base N_ratio "ratio" (defScope s_ratio) f cdv A outer s H E).A (cxOf (L2.CX P w) P w K mg base N_ratio "ratio" (defScope s_ratio) f cdv A outer s H E).env (cxOf (L2.CX P w) P w K mg base N_ratio "ratio" (defScope s_ratio) f cdv A outer s H E).xe := passes_of rfl
  exact pdss_cons (pds_if (pdt_eq hr (pd_var 1 (pv 1)) (pd_int)) (pdss_one (pds_raise (n := 2) M_BadRatio (by rfl) (by decide) rfl hr2 rfl tk (pda_cons (pd_var 0 (pv 0)) (pda_cons (pd_var 1 (pv 1)) (pda_nil))))) (pdss_nil))
      (pdss_cons (pds_if (pdt_lt (pd_var 1 (pv 1)) (pd_int)) (pdss_one (pds_ret (pd_cal C_ratio_r hr rfl tk (pda_cons (pd_neg (pd_var 0 (pv 0))) (pda_cons (pd_neg (pd_var 1 (pv 1))) (pda_nil)))))) (pdss_nil))
      (pdss_cons (pds_set (i := 2) nd rfl (by first | exact .inl rfl | exact .inr rfl) (pd_cal C_common hr rfl tk (pda_cons (pd_callB cD_abs call_abs rfl T.b_abs PyProof.Rows.boot_abs (pda_cons (pd_var 0 (pv 0)) (pda_nil))) (pda_cons (pd_var 1 (pv 1)) (pda_nil)))))
      (pdss_one (pds_ret (pd_tup (pda_cons (pd_div (pd_var 0 (pv 0)) (pd_var 2 (pv 2))) (pda_cons (pd_div (pd_var 1 (pv 1)) (pd_var 2 (pv 2))) (pda_nil))))))))
theorem d_rate_of {f : Addr} {aBR : Addr} {aSE : Addr} {aBF : Addr} (T : Tx K mg cls flds aBR aSE aBF) (C_deep : Cal P w K mg base cls flds k "deep" (sp_deep 8)) (C_is_integer : Cal P w K mg base cls flds k "is_integer" sp_is_integer) (C_common : Cal P w K mg base cls flds k "common" sp_common) (Fr : Frm) (Xd : Str → List D → Prop) (cdv : Value) (A : Around) (outer : List Env) (s : Shared) (H : Hp) (E : XK) (hr : Room k (A.deeper (envOfC "rate_of" (defScope s_rate_of) s.heap.objs.size f cdv))) (tk : Takes (cxOf (L2.CX P w) P w K mg base N_rate_of "rate_of" (defScope s_rate_of) f cdv A outer s H E) (LW ⟨K, cls, flds⟩ Fr fun c es _ => Xd c es)) :
    PDSs ⟨K, cls, flds⟩ Fr (cxOf (L2.CX P w) P w K mg base N_rate_of "rate_of" (defScope s_rate_of) f cdv A outer s H E) (defBody s_rate_of) (t_rate_of Xd) := by
  have nd := (sc_rate_of).nd
  have pas : PassesOwn (model P w) (cxOf (L2.CX P w) P w K mg base N_rate_of "rate_of" (defScope s_rate_of) f cdv A outer s H E).A (cxOf (L2.CX P w) P w K mg base N_rate_of "rate_of" (defScope s_rate_of) f cdv A outer s H E).env (cxOf (L2.CX P w) P w K mg base N_rate_of "rate_of" (defScope s_rate_of) f cdv A outer s H E).xe := passes_of rfl
  exact pdss_cons (pds_set (i := 1) nd rfl (by first | exact .inl rfl | exact .inr rfl) (pd_cal C_deep hr rfl tk (pda_cons (pd_var 0 (pv 0)) (pda_nil))))
      (pdss_cons (pds_if (PDW.pdt (pdw_or (pdt_not (pdt_val (pd_isi (T := "tuple") rfl T.b_isinstance rfl T.b_tuple PyProof.Rows.boot_tuple (pd_var 1 (pv 1))))) (pdw_or1 (pdt_ne hr (pd_len rfl T.b_len (pda_cons (pd_var 1 (pv 1)) (pda_nil))) (pd_int))))) (pdss_one (pds_ret (pd_non))) (pdss_nil))
      (pdss_cons (pds_if (PDW.pdt (pdw_or (pdt_not (pdt_val (pd_cal C_is_integer hr rfl tk (pda_cons (pd_ix (pd_var 1 (pv 1)) (pd_int)) (pda_cons (pd_neg (pd_int)) (pda_cons (pd_int) (pda_nil))))))) (pdw_or1 (pdt_not (pdt_val (pd_cal C_is_integer hr rfl tk (pda_cons (pd_ix (pd_var 1 (pv 1)) (pd_int)) (pda_cons (pd_int) (pda_cons (pd_int) (pda_nil)))))))))) (pdss_one (pds_ret (pd_non))) (pdss_nil))
      (pdss_cons (pds_if (pdt_ne hr (pd_cal C_common hr rfl tk (pda_cons (pd_callB cD_abs call_abs rfl T.b_abs PyProof.Rows.boot_abs (pda_cons (pd_ix (pd_var 1 (pv 1)) (pd_int)) (pda_nil))) (pda_cons (pd_ix (pd_var 1 (pv 1)) (pd_int)) (pda_nil)))) (pd_int)) (pdss_one (pds_ret (pd_non))) (pdss_nil))
      (pdss_one (pds_ret (pd_var 1 (pv 1)))))))
theorem d_is_ratio {f : Addr} {aBR : Addr} {aSE : Addr} {aBF : Addr} (T : Tx K mg cls flds aBR aSE aBF) (C_rate_of : Cal P w K mg base cls flds k "rate_of" sp_rate_of) (Fr : Frm) (Xd : Str → List D → Prop) (cdv : Value) (A : Around) (outer : List Env) (s : Shared) (H : Hp) (E : XK) (hr : Room k (A.deeper (envOfC "is_ratio" (defScope s_is_ratio) s.heap.objs.size f cdv))) (tk : Takes (cxOf (L2.CX P w) P w K mg base N_is_ratio "is_ratio" (defScope s_is_ratio) f cdv A outer s H E) (LW ⟨K, cls, flds⟩ Fr fun c es _ => Xd c es)) :
    PDSs ⟨K, cls, flds⟩ Fr (cxOf (L2.CX P w) P w K mg base N_is_ratio "is_ratio" (defScope s_is_ratio) f cdv A outer s H E) (defBody s_is_ratio) (t_is_ratio Xd) := by
  have nd := (sc_is_ratio).nd
  have pas : PassesOwn (model P w) (cxOf (L2.CX P w) P w K mg base N_is_ratio "is_ratio" (defScope s_is_ratio) f cdv A outer s H E).A (cxOf (L2.CX P w) P w K mg base N_is_ratio "is_ratio" (defScope s_is_ratio) f cdv A outer s H E).env (cxOf (L2.CX P w) P w K mg base N_is_ratio "is_ratio" (defScope s_is_ratio) f cdv A outer s H E).xe := passes_of rfl
  exact pdss_one (pds_ret (pd_notN (pd_cal C_rate_of hr rfl tk (pda_cons (pd_var 0 (pv 0)) (pda_nil))) (pd_non)))
theorem d_plus {f : Addr} {aBR : Addr} {aSE : Addr} {aBF : Addr} (T : Tx K mg cls flds aBR aSE aBF) (C_ratio : Cal P w K mg base cls flds k "ratio" sp_ratio) (Fr : Frm) (Xd : Str → List D → Prop) (cdv : Value) (A : Around) (outer : List Env) (s : Shared) (H : Hp) (E : XK) (hr : Room k (A.deeper (envOfC "plus" (defScope s_plus) s.heap.objs.size f cdv))) (tk : Takes (cxOf (L2.CX P w) P w K mg base N_plus "plus" (defScope s_plus) f cdv A outer s H E) (LW ⟨K, cls, flds⟩ Fr fun c es _ => Xd c es)) :
    PDSs ⟨K, cls, flds⟩ Fr (cxOf (L2.CX P w) P w K mg base N_plus "plus" (defScope s_plus) f cdv A outer s H E) (defBody s_plus) (t_plus Xd) := by
  have nd := (sc_plus).nd
  have pas : PassesOwn (model P w) (cxOf (L2.CX P w) P w K mg base N_plus "plus" (defScope s_plus) f cdv A outer s H E).A (cxOf (L2.CX P w) P w K mg base N_plus "plus" (defScope s_plus) f cdv A outer s H E).env (cxOf (L2.CX P w) P w K mg base N_plus "plus" (defScope s_plus) f cdv A outer s H E).xe := passes_of rfl
  exact pdss_cons (pds_asg (ws := [1, 2]) (pd_tup (pda_cons (pd_int) (pda_cons (pd_int) (pda_nil)))) (pdg_tup rfl (pdgs_cons (pdg_name (i := 1) nd rfl (by first | exact .inl rfl | exact .inr rfl)) (pdgs_cons (pdg_name (i := 2) nd rfl (by first | exact .inl rfl | exact .inr rfl)) (pdgs_nil)))))
      (pdss_cons (pds_for (ws := [3]) pas rfl (pdi_seq (pd_var 0 (pv 0))) (pdg_name (i := 3) nd rfl (by first | exact .inl rfl | exact .inr rfl)) (pdss_one (pds_par (i := 1) (j := 2) rfl nd rfl rfl (by decide) rfl rfl (pda_cons (pd_add (pd_mul (pd_var 1 (pv 1)) (pd_ix (pd_var 3 (pv 3)) (pd_int))) (pd_mul (pd_ix (pd_var 3 (pv 3)) (pd_int)) (pd_var 2 (pv 2)))) (pda_cons (pd_mul (pd_var 2 (pv 2)) (pd_ix (pd_var 3 (pv 3)) (pd_int))) (pda_nil))))))
      (pdss_one (pds_ret (pd_cal C_ratio hr rfl tk (pda_cons (pd_var 1 (pv 1)) (pda_cons (pd_var 2 (pv 2)) (pda_nil)))))))
theorem d_minus {f : Addr} {aBR : Addr} {aSE : Addr} {aBF : Addr} (T : Tx K mg cls flds aBR aSE aBF) (C_ratio : Cal P w K mg base cls flds k "ratio" sp_ratio) (Fr : Frm) (Xd : Str → List D → Prop) (cdv : Value) (A : Around) (outer : List Env) (s : Shared) (H : Hp) (E : XK) (hr : Room k (A.deeper (envOfC "minus" (defScope s_minus) s.heap.objs.size f cdv))) (tk : Takes (cxOf (L2.CX P w) P w K mg base N_minus "minus" (defScope s_minus) f cdv A outer s H E) (LW ⟨K, cls, flds⟩ Fr fun c es _ => Xd c es)) :
    PDSs ⟨K, cls, flds⟩ Fr (cxOf (L2.CX P w) P w K mg base N_minus "minus" (defScope s_minus) f cdv A outer s H E) (defBody s_minus) (t_minus Xd) := by
  have nd := (sc_minus).nd
  have pas : PassesOwn (model P w) (cxOf (L2.CX P w) P w K mg base N_minus "minus" (defScope s_minus) f cdv A outer s H E).A (cxOf (L2.CX P w) P w K mg base N_minus "minus" (defScope s_minus) f cdv A outer s H E).env (cxOf (L2.CX P w) P w K mg base N_minus "minus" (defScope s_minus) f cdv A outer s H E).xe := passes_of rfl
  exact pdss_one (pds_ret (pd_cal C_ratio hr rfl tk (pda_cons (pd_sub (pd_mul (pd_ix (pd_var 0 (pv 0)) (pd_int)) (pd_ix (pd_var 1 (pv 1)) (pd_int))) (pd_mul (pd_ix (pd_var 1 (pv 1)) (pd_int)) (pd_ix (pd_var 0 (pv 0)) (pd_int)))) (pda_cons (pd_mul (pd_ix (pd_var 0 (pv 0)) (pd_int)) (pd_ix (pd_var 1 (pv 1)) (pd_int))) (pda_nil)))))
theorem d_times {f : Addr} {aBR : Addr} {aSE : Addr} {aBF : Addr} (T : Tx K mg cls flds aBR aSE aBF) (C_ratio : Cal P w K mg base cls flds k "ratio" sp_ratio) (Fr : Frm) (Xd : Str → List D → Prop) (cdv : Value) (A : Around) (outer : List Env) (s : Shared) (H : Hp) (E : XK) (hr : Room k (A.deeper (envOfC "times" (defScope s_times) s.heap.objs.size f cdv))) (tk : Takes (cxOf (L2.CX P w) P w K mg base N_times "times" (defScope s_times) f cdv A outer s H E) (LW ⟨K, cls, flds⟩ Fr fun c es _ => Xd c es)) :
    PDSs ⟨K, cls, flds⟩ Fr (cxOf (L2.CX P w) P w K mg base N_times "times" (defScope s_times) f cdv A outer s H E) (defBody s_times) (t_times Xd) := by
  have nd := (sc_times).nd
  have pas : PassesOwn (model P w) (cxOf (L2.CX P w) P w K mg base N_times "times" (defScope s_times) f cdv A outer s H E).A (cxOf (L2.CX P w) P w K mg base N_times "times" (defScope s_times) f cdv A outer s H E).env (cxOf (L2.CX P w) P w K mg base N_times "times" (defScope s_times) f cdv A outer s H E).xe := passes_of rfl
  exact pdss_one (pds_ret (pd_cal C_ratio hr rfl tk (pda_cons (pd_mul (pd_ix (pd_var 0 (pv 0)) (pd_int)) (pd_ix (pd_var 1 (pv 1)) (pd_int))) (pda_cons (pd_mul (pd_ix (pd_var 0 (pv 0)) (pd_int)) (pd_ix (pd_var 1 (pv 1)) (pd_int))) (pda_nil)))))
theorem d_less {f : Addr} {aBR : Addr} {aSE : Addr} {aBF : Addr} (T : Tx K mg cls flds aBR aSE aBF) (Fr : Frm) (Xd : Str → List D → Prop) (cdv : Value) (A : Around) (outer : List Env) (s : Shared) (H : Hp) (E : XK) (hr : Room k (A.deeper (envOfC "less" (defScope s_less) s.heap.objs.size f cdv))) (tk : Takes (cxOf (L2.CX P w) P w K mg base N_less "less" (defScope s_less) f cdv A outer s H E) (LW ⟨K, cls, flds⟩ Fr fun c es _ => Xd c es)) :
    PDSs ⟨K, cls, flds⟩ Fr (cxOf (L2.CX P w) P w K mg base N_less "less" (defScope s_less) f cdv A outer s H E) (defBody s_less) (t_less Xd) := by
  have nd := (sc_less).nd
  have pas : PassesOwn (model P w) (cxOf (L2.CX P w) P w K mg base N_less "less" (defScope s_less) f cdv A outer s H E).A (cxOf (L2.CX P w) P w K mg base N_less "less" (defScope s_less) f cdv A outer s H E).env (cxOf (L2.CX P w) P w K mg base N_less "less" (defScope s_less) f cdv A outer s H E).xe := passes_of rfl
  exact pdss_one (pds_ret (pd_lt (pd_mul (pd_ix (pd_var 0 (pv 0)) (pd_int)) (pd_ix (pd_var 1 (pv 1)) (pd_int))) (pd_mul (pd_ix (pd_var 1 (pv 1)) (pd_int)) (pd_ix (pd_var 0 (pv 0)) (pd_int)))))
theorem d_write_ratio {f : Addr} {aBR : Addr} {aSE : Addr} {aBF : Addr} (T : Tx K mg cls flds aBR aSE aBF) (Fr : Frm) (Xd : Str → List D → Prop) (cdv : Value) (A : Around) (outer : List Env) (s : Shared) (H : Hp) (E : XK) (hr : Room k (A.deeper (envOfC "write_ratio" (defScope s_write_ratio) s.heap.objs.size f cdv))) (tk : Takes (cxOf (L2.CX P w) P w K mg base N_write_ratio "write_ratio" (defScope s_write_ratio) f cdv A outer s H E) (LW ⟨K, cls, flds⟩ Fr fun c es _ => Xd c es)) :
    PDSs ⟨K, cls, flds⟩ Fr (cxOf (L2.CX P w) P w K mg base N_write_ratio "write_ratio" (defScope s_write_ratio) f cdv A outer s H E) (defBody s_write_ratio) (t_write_ratio Xd) := by
  have nd := (sc_write_ratio).nd
  have pas : PassesOwn (model P w) (cxOf (L2.CX P w) P w K mg base N_write_ratio "write_ratio" (defScope s_write_ratio) f cdv A outer s H E).A (cxOf (L2.CX P w) P w K mg base N_write_ratio "write_ratio" (defScope s_write_ratio) f cdv A outer s H E).env (cxOf (L2.CX P w) P w K mg base N_write_ratio "write_ratio" (defScope s_write_ratio) f cdv A outer s H E).xe := passes_of rfl
  exact pdss_cons (pds_if (pdt_eq hr (pd_ix (pd_var 0 (pv 0)) (pd_int)) (pd_int)) (pdss_one (pds_ret (pd_joined1 (pd_fmt (pd_ix (pd_var 0 (pv 0)) (pd_int)))))) (pdss_nil))
      (pdss_one (pds_ret (pd_joined (.cons (pd_fmt (pd_ix (pd_var 0 (pv 0)) (pd_int))) (.cons (pd_str) (.cons (pd_fmt (pd_ix (pd_var 0 (pv 0)) (pd_int))) (.nil)))))))
theorem d__law_choice {f : Addr} {aBR : Addr} {aSE : Addr} {aBF : Addr} (T : Tx K mg cls flds aBR aSE aBF) (C__law_pick : Cal P w K mg base cls flds k "_law_pick" sp__law_pick) (Fr : Frm) (Xd : Str → List D → Prop) (cdv : Value) (A : Around) (outer : List Env) (s : Shared) (H : Hp) (E : XK) (hr : Room k (A.deeper (envOfC "_law_choice" (defScope s__law_choice) s.heap.objs.size f cdv))) (tk : Takes (cxOf (L2.CX P w) P w K mg base N__law_choice "_law_choice" (defScope s__law_choice) f cdv A outer s H E) (LW ⟨K, cls, flds⟩ Fr fun c es _ => Xd c es)) :
    PDSs ⟨K, cls, flds⟩ Fr (cxOf (L2.CX P w) P w K mg base N__law_choice "_law_choice" (defScope s__law_choice) f cdv A outer s H E) (defBody s__law_choice) (t__law_choice Xd) := by
  have nd := (sc__law_choice).nd
  have pas : PassesOwn (model P w) (cxOf (L2.CX P w) P w K mg base N__law_choice "_law_choice" (defScope s__law_choice) f cdv A outer s H E).A (cxOf (L2.CX P w) P w K mg base N__law_choice "_law_choice" (defScope s__law_choice) f cdv A outer s H E).env (cxOf (L2.CX P w) P w K mg base N__law_choice "_law_choice" (defScope s__law_choice) f cdv A outer s H E).xe := passes_of rfl
  exact pdss_one (pds_ret (pd_ix (pd_var 1 (pv 1)) (pd_cal C__law_pick hr rfl tk (pda_cons (pd_var 0 (pv 0)) (pda_cons (pd_len rfl T.b_len (pda_cons (pd_var 1 (pv 1)) (pda_nil))) (pda_nil))))))
theorem d__law_one_in {f : Addr} {aBR : Addr} {aSE : Addr} {aBF : Addr} (T : Tx K mg cls flds aBR aSE aBF) (C__law_pick : Cal P w K mg base cls flds k "_law_pick" sp__law_pick) (Fr : Frm) (Xd : Str → List D → Prop) (cdv : Value) (A : Around) (outer : List Env) (s : Shared) (H : Hp) (E : XK) (hr : Room k (A.deeper (envOfC "_law_one_in" (defScope s__law_one_in) s.heap.objs.size f cdv))) (tk : Takes (cxOf (L2.CX P w) P w K mg base N__law_one_in "_law_one_in" (defScope s__law_one_in) f cdv A outer s H E) (LW ⟨K, cls, flds⟩ Fr fun c es _ => Xd c es)) :
    PDSs ⟨K, cls, flds⟩ Fr (cxOf (L2.CX P w) P w K mg base N__law_one_in "_law_one_in" (defScope s__law_one_in) f cdv A outer s H E) (defBody s__law_one_in) (t__law_one_in Xd) := by
  have nd := (sc__law_one_in).nd
  have pas : PassesOwn (model P w) (cxOf (L2.CX P w) P w K mg base N__law_one_in "_law_one_in" (defScope s__law_one_in) f cdv A outer s H E).A (cxOf (L2.CX P w) P w K mg base N__law_one_in "_law_one_in" (defScope s__law_one_in) f cdv A outer s H E).env (cxOf (L2.CX P w) P w K mg base N__law_one_in "_law_one_in" (defScope s__law_one_in) f cdv A outer s H E).xe := passes_of rfl
  exact pdss_one (pds_ret (pd_eq hr (pd_cal C__law_pick hr rfl tk (pda_cons (pd_var 0 (pv 0)) (pda_cons (pd_var 1 (pv 1)) (pda_nil)))) (pd_int)))
theorem d__law_shuffled {f : Addr} {aBR : Addr} {aSE : Addr} {aBF : Addr} (T : Tx K mg cls flds aBR aSE aBF) (C__law_pick : Cal P w K mg base cls flds k "_law_pick" sp__law_pick) (Fr : Frm) (Xd : Str → List D → Prop) (cdv : Value) (A : Around) (outer : List Env) (s : Shared) (H : Hp) (E : XK) (hr : Room k (A.deeper (envOfC "_law_shuffled" (defScope s__law_shuffled) s.heap.objs.size f cdv))) (tk : Takes (cxOf (L2.CX P w) P w K mg base N__law_shuffled "_law_shuffled" (defScope s__law_shuffled) f cdv A outer s H E) (LW ⟨K, cls, flds⟩ Fr fun c es _ => Xd c es)) :
    PDSs ⟨K, cls, flds⟩ Fr (cxOf (L2.CX P w) P w K mg base N__law_shuffled "_law_shuffled" (defScope s__law_shuffled) f cdv A outer s H E) (defBody s__law_shuffled) (t__law_shuffled Xd) := by
  have nd := (sc__law_shuffled).nd
  have pas : PassesOwn (model P w) (cxOf (L2.CX P w) P w K mg base N__law_shuffled "_law_shuffled" (defScope s__law_shuffled) f cdv A outer s H E).A (cxOf (L2.CX P w) P w K mg base N__law_shuffled "_law_shuffled" (defScope s__law_shuffled) f cdv A outer s H E).env (cxOf (L2.CX P w) P w K mg base N__law_shuffled "_law_shuffled" (defScope s__law_shuffled) f cdv A outer s H E).xe := passes_of rfl
  exact pdss_cons (pds_own (i := 2) nd rfl (by first | exact .inl rfl | exact .inr rfl) (pdf_list rfl T.b_list PyProof.Rows.boot_list (pda_cons (pd_var 1 (pv 1)) (pda_nil))))
      (pdss_cons (pds_own (i := 3) nd rfl (by first | exact .inl rfl | exact .inr rfl) (pdf_lst (pda_nil)))
      (pdss_cons (pds_for (ws := [4]) pas rfl (pdi_range1 rfl T.b_range (pda_cons (pd_len rfl T.b_len (pda_cons (pd_var 1 (pv 1)) (pda_nil))) (pda_nil))) (pdg_name (i := 4) nd rfl (by first | exact .inl rfl | exact .inr rfl)) (pdss_one (pds_expr (pd_append 3 (pv 3) (pd_popAt 2 (pv 2) (pd_cal C__law_pick hr rfl tk (pda_cons (pd_var 0 (pv 0)) (pda_cons (pd_lenOwn 2 rfl T.b_len (pv 2)) (pda_nil)))))))))
      (pdss_one (pds_ret (pd_var 3 (pv 3))))))
theorem d__law_integer {f : Addr} {aBR : Addr} {aSE : Addr} {aBF : Addr} (T : Tx K mg cls flds aBR aSE aBF) (Fr : Frm) (Xd : Str → List D → Prop) (cdv : Value) (A : Around) (outer : List Env) (s : Shared) (H : Hp) (E : XK) (hr : Room k (A.deeper (envOfC "_law_integer" (defScope s__law_integer) s.heap.objs.size f cdv))) (tk : Takes (cxOf (L2.CX P w) P w K mg base N__law_integer "_law_integer" (defScope s__law_integer) f cdv A outer s H E) (LW ⟨K, cls, flds⟩ Fr fun c es _ => Xd c es)) :
    PDSs ⟨K, cls, flds⟩ Fr (cxOf (L2.CX P w) P w K mg base N__law_integer "_law_integer" (defScope s__law_integer) f cdv A outer s H E) (defBody s__law_integer) (t__law_integer Xd) := by
  have nd := (sc__law_integer).nd
  have pas : PassesOwn (model P w) (cxOf (L2.CX P w) P w K mg base N__law_integer "_law_integer" (defScope s__law_integer) f cdv A outer s H E).A (cxOf (L2.CX P w) P w K mg base N__law_integer "_law_integer" (defScope s__law_integer) f cdv A outer s H E).env (cxOf (L2.CX P w) P w K mg base N__law_integer "_law_integer" (defScope s__law_integer) f cdv A outer s H E).xe := passes_of rfl
  exact pdss_one (pds_ret (pd_and (pd_isi (T := "int") rfl T.b_isinstance rfl T.b_int PyProof.Rows.boot_int (pd_var 0 (pv 0))) (pd_one (pd_not (pd_isi (T := "bool") rfl T.b_isinstance rfl T.b_bool PyProof.Rows.boot_bool (pd_var 0 (pv 0)))))))
theorem d__law_plain {spr : SpD} {f : Addr} {aBR : Addr} {aSE : Addr} {aBF : Addr} (T : Tx K mg cls flds aBR aSE aBF) (C__law_plain_r : Cal P w K mg base cls flds k "_law_plain" spr) (C__law_integer : Cal P w K mg base cls flds k "_law_integer" sp__law_integer) (Fr : Frm) (Xd : Str → List D → Prop) (cdv : Value) (A : Around) (outer : List Env) (s : Shared) (H : Hp) (E : XK) (hr : Room k (A.deeper (envOfC "_law_plain" (defScope s__law_plain) s.heap.objs.size f cdv))) (tk : Takes (cxOf (L2.CX P w) P w K mg base N__law_plain "_law_plain" (defScope s__law_plain) f cdv A outer s H E) (LW ⟨K, cls, flds⟩ Fr fun c es _ => Xd c es)) :
    PDSs ⟨K, cls, flds⟩ Fr (cxOf (L2.CX P w) P w K mg base N__law_plain "_law_plain" (defScope s__law_plain) f cdv A outer s H E) (defBody s__law_plain) (t__law_plain spr Xd) := by
  have nd := (sc__law_plain).nd
  have pas : PassesOwn (model P w) (cxOf (L2.CX P w) P w K mg base N__law_plain "_law_plain" (defScope s__law_plain) f cdv A outer s H E).A (cxOf (L2.CX P w) P w K mg base N__law_plain "_law_plain" (defScope s__law_plain) f cdv A outer s H E).env (cxOf (L2.CX P w) P w K mg base N__law_plain "_law_plain" (defScope s__law_plain) f cdv A outer s H E).xe := passes_of rfl
  exact pdss_cons (pds_if (pdt_val (pd_isi (T := "tuple") rfl T.b_isinstance rfl T.b_tuple PyProof.Rows.boot_tuple (pd_var 0 (pv 0)))) (pdss_cons (pds_for (ws := [1]) pas rfl (pdi_seq (pd_var 0 (pv 0))) (pdg_name (i := 1) nd rfl (by first | exact .inl rfl | exact .inr rfl)) (pdss_one (pds_if (pdt_not (pdt_val (pd_cal C__law_plain_r hr rfl tk (pda_cons (pd_var 1 (pv 1)) (pda_nil))))) (pdss_one (pds_ret (pd_bl))) (pdss_nil))))
      (pdss_one (pds_ret (pd_bl)))) (pdss_nil))
      (pdss_one (pds_ret (pd_or (pd_isN (pd_var 0 (pv 0)) (pd_non)) (pd_or (pd_isi (T := "str") rfl T.b_isinstance rfl T.b_str PyProof.Rows.boot_str (pd_var 0 (pv 0))) (pd_one (pd_cal C__law_integer hr rfl tk (pda_cons (pd_var 0 (pv 0)) (pda_nil))))))))
theorem d__law_lists {spr : SpD} {f : Addr} {aBR : Addr} {aSE : Addr} {aBF : Addr} (T : Tx K mg cls flds aBR aSE aBF) (C__law_lists_r : Cal P w K mg base cls flds k "_law_lists" spr) (Fr : Frm) (Xd : Str → List D → Prop) (cdv : Value) (A : Around) (outer : List Env) (s : Shared) (H : Hp) (E : XK) (hr : Room k (A.deeper (envOfC "_law_lists" (defScope s__law_lists) s.heap.objs.size f cdv))) (tk : Takes (cxOf (L2.CX P w) P w K mg base N__law_lists "_law_lists" (defScope s__law_lists) f cdv A outer s H E) (LW ⟨K, cls, flds⟩ Fr fun c es _ => Xd c es)) :
    PDSs ⟨K, cls, flds⟩ Fr (cxOf (L2.CX P w) P w K mg base N__law_lists "_law_lists" (defScope s__law_lists) f cdv A outer s H E) (defBody s__law_lists) (t__law_lists spr Xd) := by
  have nd := (sc__law_lists).nd
  have pas : PassesOwn (model P w) (cxOf (L2.CX P w) P w K mg base N__law_lists "_law_lists" (defScope s__law_lists) f cdv A outer s H E).A (cxOf (L2.CX P w) P w K mg base N__law_lists "_law_lists" (defScope s__law_lists) f cdv A outer s H E).env (cxOf (L2.CX P w) P w K mg base N__law_lists "_law_lists" (defScope s__law_lists) f cdv A outer s H E).xe := passes_of rfl
  exact pdss_cons (pds_if (PDW.pdt (pdw_or (pdt_val (pd_isi (T := "tuple") rfl T.b_isinstance rfl T.b_tuple PyProof.Rows.boot_tuple (pd_var 0 (pv 0)))) (pdw_or1 (pdt_val (pd_isi (T := "list") rfl T.b_isinstance rfl T.b_list PyProof.Rows.boot_list (pd_var 0 (pv 0))))))) (pdss_one (pds_ret (pd_fresh (pdf_comp (own := [("one", 1)]) rfl nd (pdi_seq (pd_var 0 (pv 0))) (blkOk_by (N := N__law_lists) (sc := defScope s__law_lists) (by decide +kernel)) (fun _ _ _ _ _ _ => pdg_name (i := 1) nd rfl (by first | exact .inl rfl | exact .inr rfl)) (fun _ _ _ _ _ _ => pdts_nil) (fun _ _ _ _ _ _ => pd_cal C__law_lists_r hr rfl takesNo (pda_cons (pd_var 1 (pv 1)) (pda_nil))))))) (pdss_nil))
      (pdss_one (pds_ret (pd_var 0 (pv 0))))
theorem d__law_tuples {spr : SpD} {f : Addr} {aBR : Addr} {aSE : Addr} {aBF : Addr} (T : Tx K mg cls flds aBR aSE aBF) (C__law_tuples_r : Cal P w K mg base cls flds k "_law_tuples" spr) (Fr : Frm) (Xd : Str → List D → Prop) (cdv : Value) (A : Around) (outer : List Env) (s : Shared) (H : Hp) (E : XK) (hr : Room k (A.deeper (envOfC "_law_tuples" (defScope s__law_tuples) s.heap.objs.size f cdv))) (tk : Takes (cxOf (L2.CX P w) P w K mg base N__law_tuples "_law_tuples" (defScope s__law_tuples) f cdv A outer s H E) (LW ⟨K, cls, flds⟩ Fr fun c es _ => Xd c es)) :
    PDSs ⟨K, cls, flds⟩ Fr (cxOf (L2.CX P w) P w K mg base N__law_tuples "_law_tuples" (defScope s__law_tuples) f cdv A outer s H E) (defBody s__law_tuples) (t__law_tuples spr Xd) := by
  have nd := (sc__law_tuples).nd
  have pas : PassesOwn (model P w) (cxOf (L2.CX P w) P w K mg base N__law_tuples "_law_tuples" (defScope s__law_tuples) f cdv A outer s H E).A (cxOf (L2.CX P w) P w K mg base N__law_tuples "_law_tuples" (defScope s__law_tuples) f cdv A outer s H E).env (cxOf (L2.CX P w) P w K mg base N__law_tuples "_law_tuples" (defScope s__law_tuples) f cdv A outer s H E).xe := passes_of rfl
  exact pdss_cons (pds_if (PDW.pdt (pdw_or (pdt_val (pd_isi (T := "list") rfl T.b_isinstance rfl T.b_list PyProof.Rows.boot_list (pd_var 0 (pv 0)))) (pdw_or1 (pdt_val (pd_isi (T := "tuple") rfl T.b_isinstance rfl T.b_tuple PyProof.Rows.boot_tuple (pd_var 0 (pv 0))))))) (pdss_one (pds_ret (pd_callTy (cD_tup rfl) call_tuple_of rfl T.b_tuple PyProof.Rows.boot_tuple (pda_cons (pd_fresh (pdf_comp (own := [("one", 1)]) rfl nd (pdi_seq (pd_var 0 (pv 0))) (blkOk_by (N := N__law_tuples) (sc := defScope s__law_tuples) (by decide +kernel)) (fun _ _ _ _ _ _ => pdg_name (i := 1) nd rfl (by first | exact .inl rfl | exact .inr rfl)) (fun _ _ _ _ _ _ => pdts_nil) (fun _ _ _ _ _ _ => pd_cal C__law_tuples_r hr rfl takesNo (pda_cons (pd_var 1 (pv 1)) (pda_nil))))) (pda_nil))))) (pdss_nil))
      (pdss_one (pds_ret (pd_var 0 (pv 0))))
theorem d__law_spelled {f : Addr} {aBR : Addr} {aSE : Addr} {aBF : Addr} (T : Tx K mg cls flds aBR aSE aBF) (C__law_pick : Cal P w K mg base cls flds k "_law_pick" sp__law_pick) (Fr : Frm) (Xd : Str → List D → Prop) (cdv : Value) (A : Around) (outer : List Env) (s : Shared) (H : Hp) (E : XK) (hr : Room k (A.deeper (envOfC "_law_spelled" (defScope s__law_spelled) s.heap.objs.size f cdv))) (tk : Takes (cxOf (L2.CX P w) P w K mg base N__law_spelled "_law_spelled" (defScope s__law_spelled) f cdv A outer s H E) (LW ⟨K, cls, flds⟩ Fr fun c es _ => Xd c es)) :
    PDSs ⟨K, cls, flds⟩ Fr (cxOf (L2.CX P w) P w K mg base N__law_spelled "_law_spelled" (defScope s__law_spelled) f cdv A outer s H E) (defBody s__law_spelled) (t__law_spelled Xd) := by
  have nd := (sc__law_spelled).nd
  have pas : PassesOwn (model P w) (cxOf (L2.CX P w) P w K mg base N__law_spelled "_law_spelled" (defScope s__law_spelled) f cdv A outer s H E).A (cxOf (L2.CX P w) P w K mg base N__law_spelled "_law_spelled" (defScope s__law_spelled) f cdv A outer s H E).env (cxOf (L2.CX P w) P w K mg base N__law_spelled "_law_spelled" (defScope s__law_spelled) f cdv A outer s H E).xe := passes_of rfl
  exact pdss_one (pds_ret (pd_join (pd_str) (pd_fresh (pdf_comp (own := [("k", 2)]) rfl nd (pdi_range1 rfl T.b_range (pda_cons (pd_var 1 (pv 1)) (pda_nil))) (blkOk_by (N := N__law_spelled) (sc := defScope s__law_spelled) (by decide +kernel)) (fun _ _ _ _ _ _ => pdg_name (i := 2) nd rfl (by first | exact .inl rfl | exact .inr rfl)) (fun _ _ _ _ _ _ => pdts_nil) (fun _ _ _ _ _ _ => pd_ix (pd_str) (pd_cal C__law_pick hr rfl takesNo (pda_cons (pd_var 0 (pv 0)) (pda_cons (pd_int) (pda_nil)))))))))
theorem d__law_reserved {f : Addr} {aBR : Addr} {aSE : Addr} {aBF : Addr} (T : Tx K mg cls flds aBR aSE aBF) (Fr : Frm) (Xd : Str → List D → Prop) (cdv : Value) (A : Around) (outer : List Env) (s : Shared) (H : Hp) (E : XK) (hr : Room k (A.deeper (envOfC "_law_reserved" (defScope s__law_reserved) s.heap.objs.size f cdv))) (tk : Takes (cxOf (L2.CX P w) P w K mg base N__law_reserved "_law_reserved" (defScope s__law_reserved) f cdv A outer s H E) (LW ⟨K, cls, flds⟩ Fr fun c es _ => Xd c es)) :
    PDSs ⟨K, cls, flds⟩ Fr (cxOf (L2.CX P w) P w K mg base N__law_reserved "_law_reserved" (defScope s__law_reserved) f cdv A outer s H E) (defBody s__law_reserved) (t__law_reserved Xd) := by
  have nd := (sc__law_reserved).nd
  have pas : PassesOwn (model P w) (cxOf (L2.CX P w) P w K mg base N__law_reserved "_law_reserved" (defScope s__law_reserved) f cdv A outer s H E).A (cxOf (L2.CX P w) P w K mg base N__law_reserved "_law_reserved" (defScope s__law_reserved) f cdv A outer s H E).env (cxOf (L2.CX P w) P w K mg base N__law_reserved "_law_reserved" (defScope s__law_reserved) f cdv A outer s H E).xe := passes_of rfl
  exact pdss_cons (pds_set (i := 0) nd rfl (by first | exact .inl rfl | exact .inr rfl) (pd_str))
      (pdss_one (pds_ret (pd_fresh (pdf_split (pd_add (pd_var 0 (pv 0)) (pd_str)) (pd_str)))))
theorem d__law_common {f : Addr} {aBR : Addr} {aSE : Addr} {aBF : Addr} (T : Tx K mg cls flds aBR aSE aBF) (Fr : Frm) (Xd : Str → List D → Prop) (cdv : Value) (A : Around) (outer : List Env) (s : Shared) (H : Hp) (E : XK) (hr : Room k (A.deeper (envOfC "_law_common" (defScope s__law_common) s.heap.objs.size f cdv))) (tk : Takes (cxOf (L2.CX P w) P w K mg base N__law_common "_law_common" (defScope s__law_common) f cdv A outer s H E) (LW ⟨K, cls, flds⟩ Fr fun c es _ => Xd c es)) :
    PDSs ⟨K, cls, flds⟩ Fr (cxOf (L2.CX P w) P w K mg base N__law_common "_law_common" (defScope s__law_common) f cdv A outer s H E) (defBody s__law_common) (t__law_common Xd) := by
  have nd := (sc__law_common).nd
  have pas : PassesOwn (model P w) (cxOf (L2.CX P w) P w K mg base N__law_common "_law_common" (defScope s__law_common) f cdv A outer s H E).A (cxOf (L2.CX P w) P w K mg base N__law_common "_law_common" (defScope s__law_common) f cdv A outer s H E).env (cxOf (L2.CX P w) P w K mg base N__law_common "_law_common" (defScope s__law_common) f cdv A outer s H E).xe := passes_of rfl
  exact pdss_cons (pds_while pas (pdt_gt (pd_var 1 (pv 1)) (pd_int)) (pdss_one (pds_par (i := 0) (j := 1) rfl nd rfl rfl (by decide) rfl rfl (pda_cons (pd_var 1 (pv 1)) (pda_cons (pd_mod (pd_callTy cD_int call_int1 rfl T.b_int PyProof.Rows.boot_int (pda_cons (pd_var 0 (pv 0)) (pda_nil))) (pd_var 1 (pv 1))) (pda_nil))))))
      (pdss_one (pds_ret (pd_var 0 (pv 0))))
theorem d__law_ratio {f : Addr} {aBR : Addr} {aSE : Addr} {aBF : Addr} (T : Tx K mg cls flds aBR aSE aBF) (C__law_common : Cal P w K mg base cls flds k "_law_common" sp__law_common) (Fr : Frm) (Xd : Str → List D → Prop) (cdv : Value) (A : Around) (outer : List Env) (s : Shared) (H : Hp) (E : XK) (hr : Room k (A.deeper (envOfC "_law_ratio" (defScope s__law_ratio) s.heap.objs.size f cdv))) (tk : Takes (cxOf (L2.CX P w) P w K mg base N__law_ratio "_law_ratio" (defScope s__law_ratio) f cdv A outer s H E) (LW ⟨K, cls, flds⟩ Fr fun c es _ => Xd c es)) :
    PDSs ⟨K, cls, flds⟩ Fr (cxOf (L2.CX P w) P w K mg base N__law_ratio "_law_ratio" (defScope s__law_ratio) f cdv A outer s H E) (defBody s__law_ratio) (t__law_ratio Xd) := by
  have nd := (sc__law_ratio).nd
  have pas : PassesOwn (model P w) (cxOf (L2.CX P w) P w K mg base N__law_ratio "_law_ratio" (defScope s__law_ratio) f cdv A outer s H E).A (cxOf (L2.CX P w) P w K mg base N__law_ratio "_law_ratio" (defScope s__law_ratio) f cdv A outer s H E).env (cxOf (L2.CX P w) P w K mg base N__law_ratio "_law_ratio" (defScope s__law_ratio) f cdv A outer s H E).xe := passes_of rfl
  exact pdss_cons (pds_set (i := 2) nd rfl (by first | exact .inl rfl | exact .inr rfl) (pd_cal C__law_common hr rfl tk (pda_cons (pd_callB cD_abs call_abs rfl T.b_abs PyProof.Rows.boot_abs (pda_cons (pd_var 0 (pv 0)) (pda_nil))) (pda_cons (pd_var 1 (pv 1)) (pda_nil)))))
      (pdss_one (pds_ret (pd_tup (pda_cons (pd_div (pd_var 0 (pv 0)) (pd_var 2 (pv 2))) (pda_cons (pd_div (pd_var 1 (pv 1)) (pd_var 2 (pv 2))) (pda_nil))))))
theorem d__law_plus {f : Addr} {aBR : Addr} {aSE : Addr} {aBF : Addr} (T : Tx K mg cls flds aBR aSE aBF) (C__law_ratio : Cal P w K mg base cls flds k "_law_ratio" sp__law_ratio) (Fr : Frm) (Xd : Str → List D → Prop) (cdv : Value) (A : Around) (outer : List Env) (s : Shared) (H : Hp) (E : XK) (hr : Room k (A.deeper (envOfC "_law_plus" (defScope s__law_plus) s.heap.objs.size f cdv))) (tk : Takes (cxOf (L2.CX P w) P w K mg base N__law_plus "_law_plus" (defScope s__law_plus) f cdv A outer s H E) (LW ⟨K, cls, flds⟩ Fr fun c es _ => Xd c es)) :
    PDSs ⟨K, cls, flds⟩ Fr (cxOf (L2.CX P w) P w K mg base N__law_plus "_law_plus" (defScope s__law_plus) f cdv A outer s H E) (defBody s__law_plus) (t__law_plus Xd) := by
  have nd := (sc__law_plus).nd
  have pas : PassesOwn (model P w) (cxOf (L2.CX P w) P w K mg base N__law_plus "_law_plus" (defScope s__law_plus) f cdv A outer s H E).A (cxOf (L2.CX P w) P w K mg base N__law_plus "_law_plus" (defScope s__law_plus) f cdv A outer s H E).env (cxOf (L2.CX P w) P w K mg base N__law_plus "_law_plus" (defScope s__law_plus) f cdv A outer s H E).xe := passes_of rfl
  exact pdss_one (pds_ret (pd_cal C__law_ratio hr rfl tk (pda_cons (pd_add (pd_mul (pd_ix (pd_var 0 (pv 0)) (pd_int)) (pd_ix (pd_var 1 (pv 1)) (pd_int))) (pd_mul (pd_ix (pd_var 1 (pv 1)) (pd_int)) (pd_ix (pd_var 0 (pv 0)) (pd_int)))) (pda_cons (pd_mul (pd_ix (pd_var 0 (pv 0)) (pd_int)) (pd_ix (pd_var 1 (pv 1)) (pd_int))) (pda_nil)))))
theorem d__law_number_of {f : Addr} {aBR : Addr} {aSE : Addr} {aBF : Addr} (T : Tx K mg cls flds aBR aSE aBF) (C__law_pick : Cal P w K mg base cls flds k "_law_pick" sp__law_pick) (Fr : Frm) (Xd : Str → List D → Prop) (cdv : Value) (A : Around) (outer : List Env) (s : Shared) (H : Hp) (E : XK) (hr : Room k (A.deeper (envOfC "_law_number_of" (defScope s__law_number_of) s.heap.objs.size f cdv))) (tk : Takes (cxOf (L2.CX P w) P w K mg base N__law_number_of "_law_number_of" (defScope s__law_number_of) f cdv A outer s H E) (LW ⟨K, cls, flds⟩ Fr fun c es _ => Xd c es)) :
    PDSs ⟨K, cls, flds⟩ Fr (cxOf (L2.CX P w) P w K mg base N__law_number_of "_law_number_of" (defScope s__law_number_of) f cdv A outer s H E) (defBody s__law_number_of) (t__law_number_of Xd) := by
  have nd := (sc__law_number_of).nd
  have pas : PassesOwn (model P w) (cxOf (L2.CX P w) P w K mg base N__law_number_of "_law_number_of" (defScope s__law_number_of) f cdv A outer s H E).A (cxOf (L2.CX P w) P w K mg base N__law_number_of "_law_number_of" (defScope s__law_number_of) f cdv A outer s H E).env (cxOf (L2.CX P w) P w K mg base N__law_number_of "_law_number_of" (defScope s__law_number_of) f cdv A outer s H E).xe := passes_of rfl
  exact pdss_cons (pds_set (i := 2) nd rfl (by first | exact .inl rfl | exact .inr rfl) (pd_ix (pd_fresh (pdf_lst (pda_cons (pd_int) (pda_cons (pd_int) (pda_cons (pd_pow (pd_int) (pd_int)) (pda_cons (pd_add (pd_pow (pd_int) (pd_int)) (pd_int)) (pda_nil))))))) (pd_var 1 (pv 1))))
      (pdss_one (pds_ret (pd_sub (pd_cal C__law_pick hr rfl tk (pda_cons (pd_var 0 (pv 0)) (pda_cons (pd_var 2 (pv 2)) (pda_nil)))) (pd_cal C__law_pick hr rfl tk (pda_cons (pd_var 0 (pv 0)) (pda_cons (pd_var 2 (pv 2)) (pda_nil)))))))
theorem d__law_drawn {f : Addr} {aBR : Addr} {aSE : Addr} {aBF : Addr} (T : Tx K mg cls flds aBR aSE aBF) (C__law_number_of : Cal P w K mg base cls flds k "_law_number_of" sp__law_number_of) (C__law_pick : Cal P w K mg base cls flds k "_law_pick" sp__law_pick) (C__law_ratio : Cal P w K mg base cls flds k "_law_ratio" sp__law_ratio) (Fr : Frm) (Xd : Str → List D → Prop) (cdv : Value) (A : Around) (outer : List Env) (s : Shared) (H : Hp) (E : XK) (hr : Room k (A.deeper (envOfC "_law_drawn" (defScope s__law_drawn) s.heap.objs.size f cdv))) (tk : Takes (cxOf (L2.CX P w) P w K mg base N__law_drawn "_law_drawn" (defScope s__law_drawn) f cdv A outer s H E) (LW ⟨K, cls, flds⟩ Fr fun c es _ => Xd c es)) :
    PDSs ⟨K, cls, flds⟩ Fr (cxOf (L2.CX P w) P w K mg base N__law_drawn "_law_drawn" (defScope s__law_drawn) f cdv A outer s H E) (defBody s__law_drawn) (t__law_drawn Xd) := by
  have nd := (sc__law_drawn).nd
  have pas : PassesOwn (model P w) (cxOf (L2.CX P w) P w K mg base N__law_drawn "_law_drawn" (defScope s__law_drawn) f cdv A outer s H E).A (cxOf (L2.CX P w) P w K mg base N__law_drawn "_law_drawn" (defScope s__law_drawn) f cdv A outer s H E).env (cxOf (L2.CX P w) P w K mg base N__law_drawn "_law_drawn" (defScope s__law_drawn) f cdv A outer s H E).xe := passes_of rfl
  exact pdss_cons (pds_set (i := 2) nd rfl (by first | exact .inl rfl | exact .inr rfl) (pd_cal C__law_number_of hr rfl tk (pda_cons (pd_var 0 (pv 0)) (pda_cons (pd_var 1 (pv 1)) (pda_nil)))))
      (pdss_one (pds_ret (pd_cal C__law_ratio hr rfl tk (pda_cons (pd_var 2 (pv 2)) (pda_cons (pd_add (pd_int) (pd_cal C__law_pick hr rfl tk (pda_cons (pd_var 0 (pv 0)) (pda_cons (pd_ix (pd_fresh (pdf_lst (pda_cons (pd_int) (pda_cons (pd_int) (pda_cons (pd_pow (pd_int) (pd_int)) (pda_cons (pd_pow (pd_int) (pd_int)) (pda_nil))))))) (pd_var 1 (pv 1))) (pda_nil))))) (pda_nil))))))
theorem d__law_made {f : Addr} {aBR : Addr} {aSE : Addr} {aBF : Addr} (T : Tx K mg cls flds aBR aSE aBF) (C_ratio : Cal P w K mg base cls flds k "ratio" sp_ratio) (Fr : Frm) (Xd : Str → List D → Prop) (cdv : Value) (A : Around) (outer : List Env) (s : Shared) (H : Hp) (E : XK) (hr : Room k (A.deeper (envOfC "_law_made" (defScope s__law_made) s.heap.objs.size f cdv))) (tk : Takes (cxOf (L2.CX P w) P w K mg base N__law_made "_law_made" (defScope s__law_made) f cdv A outer s H E) (LW ⟨K, cls, flds⟩ Fr fun c es _ => Xd c es)) :
    PDSs ⟨K, cls, flds⟩ Fr (cxOf (L2.CX P w) P w K mg base N__law_made "_law_made" (defScope s__law_made) f cdv A outer s H E) (defBody s__law_made) (t__law_made Xd) := by
  have nd := (sc__law_made).nd
  have pas : PassesOwn (model P w) (cxOf (L2.CX P w) P w K mg base N__law_made "_law_made" (defScope s__law_made) f cdv A outer s H E).A (cxOf (L2.CX P w) P w K mg base N__law_made "_law_made" (defScope s__law_made) f cdv A outer s H E).env (cxOf (L2.CX P w) P w K mg base N__law_made "_law_made" (defScope s__law_made) f cdv A outer s H E).xe := passes_of rfl
  exact pdss_cons (pds_try (tb := fun xc1 => dSet 2 (dCall sp_ratio xc1 (dCons (dVar 0) (dCons (dVar 1) (dNil))))) (l := [⟨m_BadRatio, some 3, fun a cls d => dSeq (dSet 4 (dAndV (dIsE a cls d is_StrawError (dVar 3)) (dIsE a cls d is_ValueError (dVar 3))))
      (dRet (dTup (dCons (dC (.str "refused")) (dCons (dXf a cls d "BadRatio" 1 (dVar 3)) (dCons (dXf a cls d "BadRatio" 0 (dVar 3)) (dCons (dAndV (dVar 4) (dNotV (dIsE a cls d is_BadFace (dVar 3)))) (dNil)))))))⟩, ⟨m_StrawError, none, fun a cls d => dRet (dTup (dCons (dC (.str "another")) (dCons (dC (.int 0)) (dCons (dC (.int 0)) (dCons (dC (.bl false)) (dNil))))))⟩]) rfl rfl nd tk (fun Fr xc1 pn xe tk1 pas1 => pdss_one (pds_set (i := 2) nd rfl (by first | exact .inl rfl | exact .inr rfl) (pd_cal C_ratio hr rfl tk1 (pda_cons (pd_var 0 (pv 0)) (pda_cons (pd_var 1 (pv 1)) (pda_nil)))))) (.named (i := 3) (m := m_BadRatio) rfl rfl ⟨rfl, by decide, .inl T.g_BadRatio⟩ T.m_BadRatio (fun Fr a oe cls d pn hz hf => pdss_cons (pds_set (i := 4) nd rfl (by first | exact .inl rfl | exact .inr rfl) (pd_and (pd_isE (f := is_StrawError) rfl T.b_isinstance (pe_glob (v := .ref aSE) rfl T.g_StrawError rfl) (.own _) T.i_StrawError hz hf (pd_var 3 (pv 3))) (pd_one (pd_isE (f := is_ValueError) rfl T.b_isinstance (pe_bltn (v := .ty "ValueError") rfl T.b_ValueError (by decide +kernel) rfl (by decide) (by decide)) (.ty _) T.i_ValueError hz hf (pd_var 3 (pv 3))))))
      (pdss_one (pds_ret (pd_tup (pda_cons (pd_str) (pda_cons (pd_xf (c0 := "BadRatio") 1 T.k_BadRatio T.f_BadRatio T.a_BadRatio_top T.nd_BadRatio T.h_BadRatio_top hz hf (pd_var 3 (pv 3))) (pda_cons (pd_xf (c0 := "BadRatio") 0 T.k_BadRatio T.f_BadRatio T.a_BadRatio_bottom T.nd_BadRatio T.h_BadRatio_bottom hz hf (pd_var 3 (pv 3))) (pda_cons (pd_and (pd_var 4 (pv 4)) (pd_one (pd_not (pd_isE (f := is_BadFace) rfl T.b_isinstance (pe_glob (v := .ref aBF) rfl T.g_BadFace rfl) (.own _) T.i_BadFace hz hf (pd_var 3 (pv 3)))))) (pda_nil))))))))) (.bare (m := m_StrawError) ⟨rfl, by decide, .inl T.g_StrawError⟩ T.m_StrawError (fun Fr a oe cls d pn hz hf => pdss_one (pds_ret (pd_tup (pda_cons (pd_str) (pda_cons (pd_int) (pda_cons (pd_int) (pda_cons (pd_bl) (pda_nil)))))))) (.nil))))
      (pdss_one (pds_ret (pd_tup (pda_cons (pd_str) (pda_cons (pd_var 2 (pv 2)) (pda_cons (pd_int) (pda_cons (pd_bl) (pda_nil))))))))
theorem d__law_made_right {f : Addr} {aBR : Addr} {aSE : Addr} {aBF : Addr} (T : Tx K mg cls flds aBR aSE aBF) (C__law_number_of : Cal P w K mg base cls flds k "_law_number_of" sp__law_number_of) (C__law_one_in : Cal P w K mg base cls flds k "_law_one_in" sp__law_one_in) (C__law_ratio : Cal P w K mg base cls flds k "_law_ratio" sp__law_ratio) (C__law_made : Cal P w K mg base cls flds k "_law_made" sp__law_made) (C__law_plain : Cal P w K mg base cls flds k "_law_plain" (sp__law_plain 8)) (C_ratio_1 : Cal P w K mg base cls flds k "ratio" sp_ratio_1) (Fr : Frm) (Xd : Str → List D → Prop) (cdv : Value) (A : Around) (outer : List Env) (s : Shared) (H : Hp) (E : XK) (hr : Room k (A.deeper (envOfC "_law_made_right" (defScope s__law_made_right) s.heap.objs.size f cdv))) (tk : Takes (cxOf (L2.CX P w) P w K mg base N__law_made_right "_law_made_right" (defScope s__law_made_right) f cdv A outer s H E) (LW ⟨K, cls, flds⟩ Fr fun c es _ => Xd c es)) :
    PDSs ⟨K, cls, flds⟩ Fr (cxOf (L2.CX P w) P w K mg base N__law_made_right "_law_made_right" (defScope s__law_made_right) f cdv A outer s H E) (defBody s__law_made_right) (t__law_made_right Xd) := by
  have nd := (sc__law_made_right).nd
  have pas : PassesOwn (model P w) (cxOf (L2.CX P w) P w K mg base N__law_made_right "_law_made_right" (defScope s__law_made_right) f cdv A outer s H E).A (cxOf (L2.CX P w) P w K mg base N__law_made_right "_law_made_right" (defScope s__law_made_right) f cdv A outer s H E).env (cxOf (L2.CX P w) P w K mg base N__law_made_right "_law_made_right" (defScope s__law_made_right) f cdv A outer s H E).xe := passes_of rfl
  exact pdss_cons (pds_set (i := 2) nd rfl (by first | exact .inl rfl | exact .inr rfl) (pd_cal C__law_number_of hr rfl tk (pda_cons (pd_var 0 (pv 0)) (pda_cons (pd_var 1 (pv 1)) (pda_nil)))))
      (pdss_cons (pds_set (i := 3) nd rfl (by first | exact .inl rfl | exact .inr rfl) (pd_cal C__law_number_of hr rfl tk (pda_cons (pd_var 0 (pv 0)) (pda_cons (pd_var 1 (pv 1)) (pda_nil)))))
      (pdss_cons (pds_if (pdt_val (pd_cal C__law_one_in hr rfl tk (pda_cons (pd_var 0 (pv 0)) (pda_cons (pd_int) (pda_nil))))) (pdss_one (pds_set (i := 3) nd rfl (by first | exact .inl rfl | exact .inr rfl) (pd_int))) (pdss_nil))
      (pdss_cons (pds_if (pdt_val (pd_cal C__law_one_in hr rfl tk (pda_cons (pd_var 0 (pv 0)) (pda_cons (pd_int) (pda_nil))))) (pdss_cons (pds_set (i := 3) nd rfl (by first | exact .inl rfl | exact .inr rfl) (pd_mul (pd_var 3 (pv 3)) (pd_int)))
      (pdss_one (pds_set (i := 2) nd rfl (by first | exact .inl rfl | exact .inr rfl) (pd_mul (pd_var 2 (pv 2)) (pd_int))))) (pdss_nil))
      (pdss_cons (pds_set (i := 4) nd rfl (by first | exact .inl rfl | exact .inr rfl) (pd_tup (pda_cons (pd_str) (pda_cons (pd_var 2 (pv 2)) (pda_cons (pd_var 3 (pv 3)) (pda_cons (pd_bl) (pda_nil)))))))
      (pdss_cons (pds_if (pdt_gt (pd_var 3 (pv 3)) (pd_int)) (pdss_one (pds_set (i := 4) nd rfl (by first | exact .inl rfl | exact .inr rfl) (pd_tup (pda_cons (pd_str) (pda_cons (pd_cal C__law_ratio hr rfl tk (pda_cons (pd_var 2 (pv 2)) (pda_cons (pd_var 3 (pv 3)) (pda_nil)))) (pda_cons (pd_int) (pda_cons (pd_bl) (pda_nil)))))))) (pdss_nil))
      (pdss_cons (pds_if (pdt_lt (pd_var 3 (pv 3)) (pd_int)) (pdss_one (pds_set (i := 4) nd rfl (by first | exact .inl rfl | exact .inr rfl) (pd_tup (pda_cons (pd_str) (pda_cons (pd_cal C__law_ratio hr rfl tk (pda_cons (pd_neg (pd_var 2 (pv 2))) (pda_cons (pd_neg (pd_var 3 (pv 3))) (pda_nil)))) (pda_cons (pd_int) (pda_cons (pd_bl) (pda_nil)))))))) (pdss_nil))
      (pdss_cons (pds_set (i := 5) nd rfl (by first | exact .inl rfl | exact .inr rfl) (pd_cal C__law_made hr rfl tk (pda_cons (pd_var 2 (pv 2)) (pda_cons (pd_var 3 (pv 3)) (pda_nil)))))
      (pdss_cons (pds_if (PDW.pdt (pdw_or (pdt_ne hr (pd_var 5 (pv 5)) (pd_var 4 (pv 4))) (pdw_or1 (pdt_not (pdt_val (pd_cal C__law_plain hr rfl tk (pda_cons (pd_slice (pd_var 5 (pv 5)) (pdo_none) (pdo_some (pd_int))) (pda_nil)))))))) (pdss_one (pds_ret (pd_bl))) (pdss_nil))
      (pdss_cons (pds_set (i := 6) nd rfl (by first | exact .inl rfl | exact .inr rfl) (pd_cal C_ratio_1 hr rfl tk (pda_cons (pd_var 2 (pv 2)) (pda_nil))))
      (pdss_one (pds_ret (pd_and (pd_cal C__law_plain hr rfl tk (pda_cons (pd_var 6 (pv 6)) (pda_nil))) (pd_one (pd_eq hr (pd_var 6 (pv 6)) (pd_tup (pda_cons (pd_var 2 (pv 2)) (pda_cons (pd_int) (pda_nil))))))))))))))))))
theorem d__law_sum {f : Addr} {aBR : Addr} {aSE : Addr} {aBF : Addr} (T : Tx K mg cls flds aBR aSE aBF) (C_plus : Cal P w K mg base cls flds k "plus" sp_plus) (Fr : Frm) (Xd : Str → List D → Prop) (cdv : Value) (A : Around) (outer : List Env) (s : Shared) (H : Hp) (E : XK) (hr : Room k (A.deeper (envOfC "_law_sum" (defScope s__law_sum) s.heap.objs.size f cdv))) (tk : Takes (cxOf (L2.CX P w) P w K mg base N__law_sum "_law_sum" (defScope s__law_sum) f cdv A outer s H E) (LW ⟨K, cls, flds⟩ Fr fun c es _ => Xd c es)) :
    PDSs ⟨K, cls, flds⟩ Fr (cxOf (L2.CX P w) P w K mg base N__law_sum "_law_sum" (defScope s__law_sum) f cdv A outer s H E) (defBody s__law_sum) (t__law_sum Xd) := by
  have nd := (sc__law_sum).nd
  have pas : PassesOwn (model P w) (cxOf (L2.CX P w) P w K mg base N__law_sum "_law_sum" (defScope s__law_sum) f cdv A outer s H E).A (cxOf (L2.CX P w) P w K mg base N__law_sum "_law_sum" (defScope s__law_sum) f cdv A outer s H E).env (cxOf (L2.CX P w) P w K mg base N__law_sum "_law_sum" (defScope s__law_sum) f cdv A outer s H E).xe := passes_of rfl
  exact pdss_cons (pds_if (pdt_eq hr (pd_len rfl T.b_len (pda_cons (pd_var 0 (pv 0)) (pda_nil))) (pd_int)) (pdss_one (pds_ret (pd_cal0 C_plus hr rfl tk))) (pdss_nil))
      (pdss_cons (pds_if (pdt_eq hr (pd_len rfl T.b_len (pda_cons (pd_var 0 (pv 0)) (pda_nil))) (pd_int)) (pdss_one (pds_ret (pd_cal C_plus hr rfl tk (pda_cons (pd_ix (pd_var 0 (pv 0)) (pd_int)) (pda_nil))))) (pdss_nil))
      (pdss_cons (pds_if (pdt_eq hr (pd_len rfl T.b_len (pda_cons (pd_var 0 (pv 0)) (pda_nil))) (pd_int)) (pdss_one (pds_ret (pd_cal C_plus hr rfl tk (pda_cons (pd_ix (pd_var 0 (pv 0)) (pd_int)) (pda_cons (pd_ix (pd_var 0 (pv 0)) (pd_int)) (pda_nil)))))) (pdss_nil))
      (pdss_cons (pds_if (pdt_eq hr (pd_len rfl T.b_len (pda_cons (pd_var 0 (pv 0)) (pda_nil))) (pd_int)) (pdss_one (pds_ret (pd_cal C_plus hr rfl tk (pda_cons (pd_ix (pd_var 0 (pv 0)) (pd_int)) (pda_cons (pd_ix (pd_var 0 (pv 0)) (pd_int)) (pda_cons (pd_ix (pd_var 0 (pv 0)) (pd_int)) (pda_nil))))))) (pdss_nil))
      (pdss_cons (pds_if (pdt_eq hr (pd_len rfl T.b_len (pda_cons (pd_var 0 (pv 0)) (pda_nil))) (pd_int)) (pdss_one (pds_ret (pd_cal C_plus hr rfl tk (pda_cons (pd_ix (pd_var 0 (pv 0)) (pd_int)) (pda_cons (pd_ix (pd_var 0 (pv 0)) (pd_int)) (pda_cons (pd_ix (pd_var 0 (pv 0)) (pd_int)) (pda_cons (pd_ix (pd_var 0 (pv 0)) (pd_int)) (pda_nil)))))))) (pdss_nil))
      (pdss_cons (pds_if (pdt_eq hr (pd_len rfl T.b_len (pda_cons (pd_var 0 (pv 0)) (pda_nil))) (pd_int)) (pdss_one (pds_ret (pd_cal C_plus hr rfl tk (pda_cons (pd_ix (pd_var 0 (pv 0)) (pd_int)) (pda_cons (pd_ix (pd_var 0 (pv 0)) (pd_int)) (pda_cons (pd_ix (pd_var 0 (pv 0)) (pd_int)) (pda_cons (pd_ix (pd_var 0 (pv 0)) (pd_int)) (pda_cons (pd_ix (pd_var 0 (pv 0)) (pd_int)) (pda_nil))))))))) (pdss_nil))
      (pdss_one (pds_ret (pd_cal C_plus hr rfl tk (pda_cons (pd_ix (pd_var 0 (pv 0)) (pd_int)) (pda_cons (pd_ix (pd_var 0 (pv 0)) (pd_int)) (pda_cons (pd_ix (pd_var 0 (pv 0)) (pd_int)) (pda_cons (pd_ix (pd_var 0 (pv 0)) (pd_int)) (pda_cons (pd_ix (pd_var 0 (pv 0)) (pd_int)) (pda_cons (pd_ix (pd_var 0 (pv 0)) (pd_int)) (pda_nil)))))))))))))))
theorem d__law_sums_right {f : Addr} {aBR : Addr} {aSE : Addr} {aBF : Addr} (T : Tx K mg cls flds aBR aSE aBF) (C__law_plus : Cal P w K mg base cls flds k "_law_plus" sp__law_plus) (C__law_one_in : Cal P w K mg base cls flds k "_law_one_in" sp__law_one_in) (C__law_tuples : Cal P w K mg base cls flds k "_law_tuples" (sp__law_tuples 8)) (C__law_sum : Cal P w K mg base cls flds k "_law_sum" sp__law_sum) (C__law_shuffled : Cal P w K mg base cls flds k "_law_shuffled" sp__law_shuffled) (C__law_plain : Cal P w K mg base cls flds k "_law_plain" (sp__law_plain 8)) (Fr : Frm) (Xd : Str → List D → Prop) (cdv : Value) (A : Around) (outer : List Env) (s : Shared) (H : Hp) (E : XK) (hr : Room k (A.deeper (envOfC "_law_sums_right" (defScope s__law_sums_right) s.heap.objs.size f cdv))) (tk : Takes (cxOf (L2.CX P w) P w K mg base N__law_sums_right "_law_sums_right" (defScope s__law_sums_right) f cdv A outer s H E) (LW ⟨K, cls, flds⟩ Fr fun c es _ => Xd c es)) :
    PDSs ⟨K, cls, flds⟩ Fr (cxOf (L2.CX P w) P w K mg base N__law_sums_right "_law_sums_right" (defScope s__law_sums_right) f cdv A outer s H E) (defBody s__law_sums_right) (t__law_sums_right Xd) := by
  have nd := (sc__law_sums_right).nd
  have pas : PassesOwn (model P w) (cxOf (L2.CX P w) P w K mg base N__law_sums_right "_law_sums_right" (defScope s__law_sums_right) f cdv A outer s H E).A (cxOf (L2.CX P w) P w K mg base N__law_sums_right "_law_sums_right" (defScope s__law_sums_right) f cdv A outer s H E).env (cxOf (L2.CX P w) P w K mg base N__law_sums_right "_law_sums_right" (defScope s__law_sums_right) f cdv A outer s H E).xe := passes_of rfl
  exact pdss_cons (pds_set (i := 2) nd rfl (by first | exact .inl rfl | exact .inr rfl) (pd_tup (pda_cons (pd_int) (pda_cons (pd_int) (pda_nil)))))
      (pdss_cons (pds_for (ws := [3]) pas rfl (pdi_seq (pd_var 1 (pv 1))) (pdg_name (i := 3) nd rfl (by first | exact .inl rfl | exact .inr rfl)) (pdss_one (pds_set (i := 2) nd rfl (by first | exact .inl rfl | exact .inr rfl) (pd_cal C__law_plus hr rfl tk (pda_cons (pd_var 2 (pv 2)) (pda_cons (pd_var 3 (pv 3)) (pda_nil)))))))
      (pdss_cons (pds_setLc (i := 4) (own := [("row", 3)]) rfl nd rfl rfl (sw_true rfl rfl rfl (by decide +kernel)) (pdi_seq (pd_var 1 (pv 1))) (blkOk_by (N := N__law_sums_right) (sc := defScope s__law_sums_right) (by decide +kernel)) (fun _ _ _ _ _ _ => pdg_name (i := 3) nd rfl (by first | exact .inl rfl | exact .inr rfl)) (fun _ _ _ _ _ _ => pdts_nil) (fun _ _ _ _ _ _ => pd_var 3 (pv 3)))
      (pdss_cons (pds_if (pdt_val (pd_cal C__law_one_in hr rfl tk (pda_cons (pd_var 0 (pv 0)) (pda_cons (pd_int) (pda_nil))))) (pdss_one (pds_setLc (i := 4) (own := [("row", 3)]) rfl nd rfl rfl (sw_true rfl rfl rfl (by decide +kernel)) (pdi_seq (pd_var 1 (pv 1))) (blkOk_by (N := N__law_sums_right) (sc := defScope s__law_sums_right) (by decide +kernel)) (fun _ _ _ _ _ _ => pdg_name (i := 3) nd rfl (by first | exact .inl rfl | exact .inr rfl)) (fun _ _ _ _ _ _ => pdts_nil) (fun _ _ _ _ _ _ => pd_fresh (pdf_list rfl T.b_list PyProof.Rows.boot_list (pda_cons (pd_var 3 (pv 3)) (pda_nil)))))) (pdss_nil))
      (pdss_cons (pds_setLc (i := 5) (own := [("row", 3)]) rfl nd rfl rfl (sw_true rfl rfl rfl (by decide +kernel)) (pdi_seq (pd_var 4 (pv 4))) (blkOk_by (N := N__law_sums_right) (sc := defScope s__law_sums_right) (by decide +kernel)) (fun _ _ _ _ _ _ => pdg_name (i := 3) nd rfl (by first | exact .inl rfl | exact .inr rfl)) (fun _ _ _ _ _ _ => pdts_nil) (fun _ _ _ _ _ _ => pd_cal C__law_tuples hr rfl takesNo (pda_cons (pd_var 3 (pv 3)) (pda_nil))))
      (pdss_cons (pds_set (i := 6) nd rfl (by first | exact .inl rfl | exact .inr rfl) (pd_cal C__law_sum hr rfl tk (pda_cons (pd_var 4 (pv 4)) (pda_nil))))
      (pdss_cons (pds_set (i := 7) nd rfl (by first | exact .inl rfl | exact .inr rfl) (pd_cal C__law_sum hr rfl tk (pda_cons (pd_cal C__law_shuffled hr rfl tk (pda_cons (pd_var 0 (pv 0)) (pda_cons (pd_var 4 (pv 4)) (pda_nil)))) (pda_nil))))
      (pdss_cons (pds_if (PDW.pdt (pdw_or (pdt_not (pdt_val (pd_cal C__law_plain hr rfl tk (pda_cons (pd_var 6 (pv 6)) (pda_nil))))) (pdw_or1 (pdt_not (pdt_val (pd_cal C__law_plain hr rfl tk (pda_cons (pd_var 7 (pv 7)) (pda_nil)))))))) (pdss_one (pds_ret (pd_bl))) (pdss_nil))
      (pdss_one (pds_ret (pd_and (pd_eq hr (pd_var 6 (pv 6)) (pd_var 2 (pv 2))) (pd_and (pd_eq hr (pd_var 7 (pv 7)) (pd_var 2 (pv 2))) (pd_one (pd_eq hr (pd_fresh (pdf_comp (own := [("row", 3)]) rfl nd (pdi_seq (pd_var 4 (pv 4))) (blkOk_by (N := N__law_sums_right) (sc := defScope s__law_sums_right) (by decide +kernel)) (fun _ _ _ _ _ _ => pdg_name (i := 3) nd rfl (by first | exact .inl rfl | exact .inr rfl)) (fun _ _ _ _ _ _ => pdts_nil) (fun _ _ _ _ _ _ => pd_cal C__law_tuples hr rfl takesNo (pda_cons (pd_var 3 (pv 3)) (pda_nil))))) (pd_var 5 (pv 5)))))))))))))))
theorem d__law_text {f : Addr} {aBR : Addr} {aSE : Addr} {aBF : Addr} (T : Tx K mg cls flds aBR aSE aBF) (Fr : Frm) (Xd : Str → List D → Prop) (cdv : Value) (A : Around) (outer : List Env) (s : Shared) (H : Hp) (E : XK) (hr : Room k (A.deeper (envOfC "_law_text" (defScope s__law_text) s.heap.objs.size f cdv))) (tk : Takes (cxOf (L2.CX P w) P w K mg base N__law_text "_law_text" (defScope s__law_text) f cdv A outer s H E) (LW ⟨K, cls, flds⟩ Fr fun c es _ => Xd c es)) :
    PDSs ⟨K, cls, flds⟩ Fr (cxOf (L2.CX P w) P w K mg base N__law_text "_law_text" (defScope s__law_text) f cdv A outer s H E) (defBody s__law_text) (t__law_text Xd) := by
  have nd := (sc__law_text).nd
  have pas : PassesOwn (model P w) (cxOf (L2.CX P w) P w K mg base N__law_text "_law_text" (defScope s__law_text) f cdv A outer s H E).A (cxOf (L2.CX P w) P w K mg base N__law_text "_law_text" (defScope s__law_text) f cdv A outer s H E).env (cxOf (L2.CX P w) P w K mg base N__law_text "_law_text" (defScope s__law_text) f cdv A outer s H E).xe := passes_of rfl
  exact pdss_cons (pds_if (pdt_eq hr (pd_ix (pd_var 0 (pv 0)) (pd_int)) (pd_int)) (pdss_one (pds_ret (pd_callTy cD_str call_str_int rfl T.b_str PyProof.Rows.boot_str (pda_cons (pd_ix (pd_var 0 (pv 0)) (pd_int)) (pda_nil))))) (pdss_nil))
      (pdss_one (pds_ret (pd_add (pd_add (pd_callTy cD_str call_str_int rfl T.b_str PyProof.Rows.boot_str (pda_cons (pd_ix (pd_var 0 (pv 0)) (pd_int)) (pda_nil))) (pd_str)) (pd_callTy cD_str call_str_int rfl T.b_str PyProof.Rows.boot_str (pda_cons (pd_ix (pd_var 0 (pv 0)) (pd_int)) (pda_nil))))))
theorem d__law_truth {f : Addr} {aBR : Addr} {aSE : Addr} {aBF : Addr} (T : Tx K mg cls flds aBR aSE aBF) (Fr : Frm) (Xd : Str → List D → Prop) (cdv : Value) (A : Around) (outer : List Env) (s : Shared) (H : Hp) (E : XK) (hr : Room k (A.deeper (envOfC "_law_truth" (defScope s__law_truth) s.heap.objs.size f cdv))) (tk : Takes (cxOf (L2.CX P w) P w K mg base N__law_truth "_law_truth" (defScope s__law_truth) f cdv A outer s H E) (LW ⟨K, cls, flds⟩ Fr fun c es _ => Xd c es)) :
    PDSs ⟨K, cls, flds⟩ Fr (cxOf (L2.CX P w) P w K mg base N__law_truth "_law_truth" (defScope s__law_truth) f cdv A outer s H E) (defBody s__law_truth) (t__law_truth Xd) := by
  have nd := (sc__law_truth).nd
  have pas : PassesOwn (model P w) (cxOf (L2.CX P w) P w K mg base N__law_truth "_law_truth" (defScope s__law_truth) f cdv A outer s H E).A (cxOf (L2.CX P w) P w K mg base N__law_truth "_law_truth" (defScope s__law_truth) f cdv A outer s H E).env (cxOf (L2.CX P w) P w K mg base N__law_truth "_law_truth" (defScope s__law_truth) f cdv A outer s H E).xe := passes_of rfl
  exact pdss_one (pds_ret (pd_and (pd_isi (T := "bool") rfl T.b_isinstance rfl T.b_bool PyProof.Rows.boot_bool (pd_var 0 (pv 0))) (pd_one (pd_eq hr (pd_var 0 (pv 0)) (pd_var 1 (pv 1))))))
theorem d__law_two_right {f : Addr} {aBR : Addr} {aSE : Addr} {aBF : Addr} (T : Tx K mg cls flds aBR aSE aBF) (C__law_plus : Cal P w K mg base cls flds k "_law_plus" sp__law_plus) (C__law_ratio : Cal P w K mg base cls flds k "_law_ratio" sp__law_ratio) (C_minus : Cal P w K mg base cls flds k "minus" sp_minus) (C_times : Cal P w K mg base cls flds k "times" sp_times) (C__law_plain : Cal P w K mg base cls flds k "_law_plain" (sp__law_plain 8)) (C_less : Cal P w K mg base cls flds k "less" sp_less) (C__law_truth : Cal P w K mg base cls flds k "_law_truth" sp__law_truth) (C_write_ratio : Cal P w K mg base cls flds k "write_ratio" sp_write_ratio) (C__law_text : Cal P w K mg base cls flds k "_law_text" sp__law_text) (Fr : Frm) (Xd : Str → List D → Prop) (cdv : Value) (A : Around) (outer : List Env) (s : Shared) (H : Hp) (E : XK) (hr : Room k (A.deeper (envOfC "_law_two_right" (defScope s__law_two_right) s.heap.objs.size f cdv))) (tk : Takes (cxOf (L2.CX P w) P w K mg base N__law_two_right "_law_two_right" (defScope s__law_two_right) f cdv A outer s H E) (LW ⟨K, cls, flds⟩ Fr fun c es _ => Xd c es)) :
    PDSs ⟨K, cls, flds⟩ Fr (cxOf (L2.CX P w) P w K mg base N__law_two_right "_law_two_right" (defScope s__law_two_right) f cdv A outer s H E) (defBody s__law_two_right) (t__law_two_right Xd) := by
  have nd := (sc__law_two_right).nd
  have pas : PassesOwn (model P w) (cxOf (L2.CX P w) P w K mg base N__law_two_right "_law_two_right" (defScope s__law_two_right) f cdv A outer s H E).A (cxOf (L2.CX P w) P w K mg base N__law_two_right "_law_two_right" (defScope s__law_two_right) f cdv A outer s H E).env (cxOf (L2.CX P w) P w K mg base N__law_two_right "_law_two_right" (defScope s__law_two_right) f cdv A outer s H E).xe := passes_of rfl
  exact pdss_cons (pds_set (i := 2) nd rfl (by first | exact .inl rfl | exact .inr rfl) (pd_cal C__law_plus hr rfl tk (pda_cons (pd_var 0 (pv 0)) (pda_cons (pd_tup (pda_cons (pd_neg (pd_ix (pd_var 1 (pv 1)) (pd_int))) (pda_cons (pd_ix (pd_var 1 (pv 1)) (pd_int)) (pda_nil)))) (pda_nil)))))
      (pdss_cons (pds_set (i := 3) nd rfl (by first | exact .inl rfl | exact .inr rfl) (pd_cal C__law_ratio hr rfl tk (pda_cons (pd_mul (pd_ix (pd_var 0 (pv 0)) (pd_int)) (pd_ix (pd_var 1 (pv 1)) (pd_int))) (pda_cons (pd_mul (pd_ix (pd_var 0 (pv 0)) (pd_int)) (pd_ix (pd_var 1 (pv 1)) (pd_int))) (pda_nil)))))
      (pdss_cons (pds_set (i := 4) nd rfl (by first | exact .inl rfl | exact .inr rfl) (pd_tup (pda_cons (pd_cal C_minus hr rfl tk (pda_cons (pd_var 0 (pv 0)) (pda_cons (pd_var 1 (pv 1)) (pda_nil)))) (pda_cons (pd_cal C_times hr rfl tk (pda_cons (pd_var 0 (pv 0)) (pda_cons (pd_var 1 (pv 1)) (pda_nil)))) (pda_nil)))))
      (pdss_cons (pds_if (PDW.pdt (pdw_or (pdt_not (pdt_val (pd_cal C__law_plain hr rfl tk (pda_cons (pd_var 4 (pv 4)) (pda_nil))))) (pdw_or1 (pdt_ne hr (pd_var 4 (pv 4)) (pd_tup (pda_cons (pd_var 2 (pv 2)) (pda_cons (pd_var 3 (pv 3)) (pda_nil)))))))) (pdss_one (pds_ret (pd_bl))) (pdss_nil))
      (pdss_cons (pds_if (pdt_not (pdt_val (pd_cal C__law_truth hr rfl tk (pda_cons (pd_cal C_less hr rfl tk (pda_cons (pd_var 0 (pv 0)) (pda_cons (pd_var 1 (pv 1)) (pda_nil)))) (pda_cons (pd_lt (pd_ix (pd_var 2 (pv 2)) (pd_int)) (pd_int)) (pda_nil)))))) (pdss_one (pds_ret (pd_bl))) (pdss_nil))
      (pdss_cons (pds_if (pdt_not (pdt_val (pd_cal C__law_truth hr rfl tk (pda_cons (pd_cal C_less hr rfl tk (pda_cons (pd_var 1 (pv 1)) (pda_cons (pd_var 0 (pv 0)) (pda_nil)))) (pda_cons (pd_gt (pd_ix (pd_var 2 (pv 2)) (pd_int)) (pd_int)) (pda_nil)))))) (pdss_one (pds_ret (pd_bl))) (pdss_nil))
      (pdss_cons (pds_if (pdt_not (pdt_val (pd_cal C__law_truth hr rfl tk (pda_cons (pd_cal C_less hr rfl tk (pda_cons (pd_var 0 (pv 0)) (pda_cons (pd_var 0 (pv 0)) (pda_nil)))) (pda_cons (pd_bl) (pda_nil)))))) (pdss_one (pds_ret (pd_bl))) (pdss_nil))
      (pdss_cons (pds_set (i := 4) nd rfl (by first | exact .inl rfl | exact .inr rfl) (pd_cal C_write_ratio hr rfl tk (pda_cons (pd_var 0 (pv 0)) (pda_nil))))
      (pdss_cons (pds_if (PDW.pdt (pdw_or (pdt_not (pdt_val (pd_isi (T := "str") rfl T.b_isinstance rfl T.b_str PyProof.Rows.boot_str (pd_var 4 (pv 4))))) (pdw_or1 (pdt_ne hr (pd_var 4 (pv 4)) (pd_cal C__law_text hr rfl tk (pda_cons (pd_var 0 (pv 0)) (pda_nil))))))) (pdss_one (pds_ret (pd_bl))) (pdss_nil))
      (pdss_one (pds_ret (pd_and (pd_eq hr (pd_cal C_minus hr rfl tk (pda_cons (pd_fresh (pdf_list rfl T.b_list PyProof.Rows.boot_list (pda_cons (pd_var 0 (pv 0)) (pda_nil)))) (pda_cons (pd_fresh (pdf_list rfl T.b_list PyProof.Rows.boot_list (pda_cons (pd_var 1 (pv 1)) (pda_nil)))) (pda_nil)))) (pd_var 2 (pv 2))) (pd_one (pd_eq hr (pd_cal C_write_ratio hr rfl tk (pda_cons (pd_fresh (pdf_list rfl T.b_list PyProof.Rows.boot_list (pda_cons (pd_var 1 (pv 1)) (pda_nil)))) (pda_nil))) (pd_cal C__law_text hr rfl tk (pda_cons (pd_var 1 (pv 1)) (pda_nil))))))))))))))))
theorem d__law_algebra {f : Addr} {aBR : Addr} {aSE : Addr} {aBF : Addr} (T : Tx K mg cls flds aBR aSE aBF) (C_plus : Cal P w K mg base cls flds k "plus" sp_plus) (C_minus : Cal P w K mg base cls flds k "minus" sp_minus) (C_times : Cal P w K mg base cls flds k "times" sp_times) (C_less : Cal P w K mg base cls flds k "less" sp_less) (C__law_truth : Cal P w K mg base cls flds k "_law_truth" sp__law_truth) (Fr : Frm) (Xd : Str → List D → Prop) (cdv : Value) (A : Around) (outer : List Env) (s : Shared) (H : Hp) (E : XK) (hr : Room k (A.deeper (envOfC "_law_algebra" (defScope s__law_algebra) s.heap.objs.size f cdv))) (tk : Takes (cxOf (L2.CX P w) P w K mg base N__law_algebra "_law_algebra" (defScope s__law_algebra) f cdv A outer s H E) (LW ⟨K, cls, flds⟩ Fr fun c es _ => Xd c es)) :
    PDSs ⟨K, cls, flds⟩ Fr (cxOf (L2.CX P w) P w K mg base N__law_algebra "_law_algebra" (defScope s__law_algebra) f cdv A outer s H E) (defBody s__law_algebra) (t__law_algebra Xd) := by
  have nd := (sc__law_algebra).nd
  have pas : PassesOwn (model P w) (cxOf (L2.CX P w) P w K mg base N__law_algebra "_law_algebra" (defScope s__law_algebra) f cdv A outer s H E).A (cxOf (L2.CX P w) P w K mg base N__law_algebra "_law_algebra" (defScope s__law_algebra) f cdv A outer s H E).env (cxOf (L2.CX P w) P w K mg base N__law_algebra "_law_algebra" (defScope s__law_algebra) f cdv A outer s H E).xe := passes_of rfl
  exact pdss_cons (pds_if (pdt_ne hr (pd_cal C_minus hr rfl tk (pda_cons (pd_cal C_plus hr rfl tk (pda_cons (pd_var 0 (pv 0)) (pda_cons (pd_var 1 (pv 1)) (pda_nil)))) (pda_cons (pd_var 1 (pv 1)) (pda_nil)))) (pd_var 0 (pv 0))) (pdss_one (pds_ret (pd_bl))) (pdss_nil))
      (pdss_cons (pds_if (pdt_ne hr (pd_cal C_plus hr rfl tk (pda_cons (pd_cal C_minus hr rfl tk (pda_cons (pd_var 0 (pv 0)) (pda_cons (pd_var 1 (pv 1)) (pda_nil)))) (pda_cons (pd_var 1 (pv 1)) (pda_nil)))) (pd_var 0 (pv 0))) (pdss_one (pds_ret (pd_bl))) (pdss_nil))
      (pdss_cons (pds_set (i := 3) nd rfl (by first | exact .inl rfl | exact .inr rfl) (pd_cal C_plus hr rfl tk (pda_cons (pd_cal C_times hr rfl tk (pda_cons (pd_var 0 (pv 0)) (pda_cons (pd_var 1 (pv 1)) (pda_nil)))) (pda_cons (pd_cal C_times hr rfl tk (pda_cons (pd_var 0 (pv 0)) (pda_cons (pd_var 2 (pv 2)) (pda_nil)))) (pda_nil)))))
      (pdss_cons (pds_if (pdt_ne hr (pd_cal C_times hr rfl tk (pda_cons (pd_var 0 (pv 0)) (pda_cons (pd_cal C_plus hr rfl tk (pda_cons (pd_var 1 (pv 1)) (pda_cons (pd_var 2 (pv 2)) (pda_nil)))) (pda_nil)))) (pd_var 3 (pv 3))) (pdss_one (pds_ret (pd_bl))) (pdss_nil))
      (pdss_cons (pds_set (i := 4) nd rfl (by first | exact .inl rfl | exact .inr rfl) (pd_cal C_less hr rfl tk (pda_cons (pd_cal C_plus hr rfl tk (pda_cons (pd_var 0 (pv 0)) (pda_cons (pd_var 2 (pv 2)) (pda_nil)))) (pda_cons (pd_cal C_plus hr rfl tk (pda_cons (pd_var 1 (pv 1)) (pda_cons (pd_var 2 (pv 2)) (pda_nil)))) (pda_nil)))))
      (pdss_cons (pds_if (pdt_not (pdt_val (pd_cal C__law_truth hr rfl tk (pda_cons (pd_var 4 (pv 4)) (pda_cons (pd_cal C_less hr rfl tk (pda_cons (pd_var 0 (pv 0)) (pda_cons (pd_var 1 (pv 1)) (pda_nil)))) (pda_nil)))))) (pdss_one (pds_ret (pd_bl))) (pdss_nil))
      (pdss_one (pds_ret (pd_and (pd_eq hr (pd_cal C_plus hr rfl tk (pda_cons (pd_var 0 (pv 0)) (pda_cons (pd_tup (pda_cons (pd_int) (pda_cons (pd_int) (pda_nil)))) (pda_nil)))) (pd_var 0 (pv 0))) (pd_and (pd_eq hr (pd_cal C_times hr rfl tk (pda_cons (pd_var 0 (pv 0)) (pda_cons (pd_tup (pda_cons (pd_int) (pda_cons (pd_int) (pda_nil)))) (pda_nil)))) (pd_var 0 (pv 0))) (pd_one (pd_eq hr (pd_cal C_times hr rfl tk (pda_cons (pd_tup (pda_cons (pd_int) (pda_cons (pd_int) (pda_nil)))) (pda_cons (pd_var 1 (pv 1)) (pda_nil)))) (pd_tup (pda_cons (pd_int) (pda_cons (pd_int) (pda_nil)))))))))))))))
theorem d__law_odd_ratio {f : Addr} {aBR : Addr} {aSE : Addr} {aBF : Addr} (T : Tx K mg cls flds aBR aSE aBF) (C__law_pick : Cal P w K mg base cls flds k "_law_pick" sp__law_pick) (C__law_choice : Cal P w K mg base cls flds k "_law_choice" sp__law_choice) (Fr : Frm) (Xd : Str → List D → Prop) (cdv : Value) (A : Around) (outer : List Env) (s : Shared) (H : Hp) (E : XK) (hr : Room k (A.deeper (envOfC "_law_odd_ratio" (defScope s__law_odd_ratio) s.heap.objs.size f cdv))) (tk : Takes (cxOf (L2.CX P w) P w K mg base N__law_odd_ratio "_law_odd_ratio" (defScope s__law_odd_ratio) f cdv A outer s H E) (LW ⟨K, cls, flds⟩ Fr fun c es _ => Xd c es)) :
    PDSs ⟨K, cls, flds⟩ Fr (cxOf (L2.CX P w) P w K mg base N__law_odd_ratio "_law_odd_ratio" (defScope s__law_odd_ratio) f cdv A outer s H E) (defBody s__law_odd_ratio) (t__law_odd_ratio Xd) := by
  have nd := (sc__law_odd_ratio).nd
  have pas : PassesOwn (model P w) (cxOf (L2.CX P w) P w K mg base N__law_odd_ratio "_law_odd_ratio" (defScope s__law_odd_ratio) f cdv A outer s H E).A (cxOf (L2.CX P w) P w K mg base N__law_odd_ratio "_law_odd_ratio" (defScope s__law_odd_ratio) f cdv A outer s H E).env (cxOf (L2.CX P w) P w K mg base N__law_odd_ratio "_law_odd_ratio" (defScope s__law_odd_ratio) f cdv A outer s H E).xe := passes_of rfl
  exact pdss_cons (pds_set (i := 1) nd rfl (by first | exact .inl rfl | exact .inr rfl) (pd_cal C__law_pick hr rfl tk (pda_cons (pd_var 0 (pv 0)) (pda_cons (pd_int) (pda_nil)))))
      (pdss_cons (pds_if (pdt_lt (pd_var 1 (pv 1)) (pd_int)) (pdss_cons (pds_set (i := 2) nd rfl (by first | exact .inl rfl | exact .inr rfl) (pd_cal C__law_choice hr rfl tk (pda_cons (pd_var 0 (pv 0)) (pda_cons (pd_fresh (pdf_lst (pda_cons (pd_int) (pda_cons (pd_int) (pda_cons (pd_int) (pda_cons (pd_neg (pd_int)) (pda_cons (pd_int) (pda_cons (pd_neg (pd_int)) (pda_cons (pd_int) (pda_cons (pd_neg (pd_int)) (pda_cons (pd_int) (pda_cons (pd_int) (pda_cons (pd_neg (pd_int)) (pda_cons (pd_int) (pda_cons (pd_int) (pda_cons (pd_pow (pd_int) (pd_int)) (pda_nil))))))))))))))))) (pda_nil)))))
      (pdss_one (pds_ret (pd_tup (pda_cons (pd_var 2 (pv 2)) (pda_cons (pd_cal C__law_choice hr rfl tk (pda_cons (pd_var 0 (pv 0)) (pda_cons (pd_fresh (pdf_lst (pda_cons (pd_int) (pda_cons (pd_int) (pda_cons (pd_int) (pda_cons (pd_int) (pda_cons (pd_int) (pda_cons (pd_int) (pda_cons (pd_int) (pda_cons (pd_neg (pd_int)) (pda_cons (pd_int) (pda_cons (pd_int) (pda_nil))))))))))))) (pda_nil)))) (pda_nil))))))) (pdss_nil))
      (pdss_cons (pds_if (pdt_lt (pd_var 1 (pv 1)) (pd_int)) (pdss_cons (pds_set (i := 2) nd rfl (by first | exact .inl rfl | exact .inr rfl) (pd_sub (pd_cal C__law_pick hr rfl tk (pda_cons (pd_var 0 (pv 0)) (pda_cons (pd_int) (pda_nil)))) (pd_int)))
      (pdss_one (pds_ret (pd_tup (pda_cons (pd_var 2 (pv 2)) (pda_cons (pd_sub (pd_cal C__law_pick hr rfl tk (pda_cons (pd_var 0 (pv 0)) (pda_cons (pd_int) (pda_nil)))) (pd_int)) (pda_nil))))))) (pdss_nil))
      (pdss_cons (pds_set (i := 3) nd rfl (by first | exact .inl rfl | exact .inr rfl) (pd_fresh (pdf_lst (pda_cons (pd_non) (pda_cons (pd_bl) (pda_cons (pd_int) (pda_cons (pd_str) (pda_cons (pd_str) (pda_cons (pd_tup (pda_nil)) (pda_cons (pd_tup (pda_cons (pd_int) (pda_nil))) (pda_cons (pd_tup (pda_cons (pd_int) (pda_cons (pd_int) (pda_cons (pd_int) (pda_nil))))) (pda_cons (pd_tup (pda_cons (pd_bl) (pda_cons (pd_int) (pda_nil)))) (pda_cons (pd_tup (pda_cons (pd_int) (pda_cons (pd_bl) (pda_nil)))) (pda_cons (pd_tup (pda_cons (pd_bl) (pda_cons (pd_int) (pda_nil)))) (pda_cons (pd_tup (pda_cons (pd_str) (pda_cons (pd_int) (pda_nil)))) (pda_cons (pd_tup (pda_cons (pd_int) (pda_cons (pd_non) (pda_nil)))) (pda_cons (pd_tup (pda_cons (pd_tup (pda_cons (pd_int) (pda_cons (pd_int) (pda_nil)))) (pda_cons (pd_int) (pda_nil)))) (pda_nil))))))))))))))))))
      (pdss_one (pds_ret (pd_cal C__law_choice hr rfl tk (pda_cons (pd_var 0 (pv 0)) (pda_cons (pd_var 3 (pv 3)) (pda_nil)))))))))
theorem d__law_ratio_fits {f : Addr} {aBR : Addr} {aSE : Addr} {aBF : Addr} (T : Tx K mg cls flds aBR aSE aBF) (C__law_integer : Cal P w K mg base cls flds k "_law_integer" sp__law_integer) (C__law_common : Cal P w K mg base cls flds k "_law_common" sp__law_common) (Fr : Frm) (Xd : Str → List D → Prop) (cdv : Value) (A : Around) (outer : List Env) (s : Shared) (H : Hp) (E : XK) (hr : Room k (A.deeper (envOfC "_law_ratio_fits" (defScope s__law_ratio_fits) s.heap.objs.size f cdv))) (tk : Takes (cxOf (L2.CX P w) P w K mg base N__law_ratio_fits "_law_ratio_fits" (defScope s__law_ratio_fits) f cdv A outer s H E) (LW ⟨K, cls, flds⟩ Fr fun c es _ => Xd c es)) :
    PDSs ⟨K, cls, flds⟩ Fr (cxOf (L2.CX P w) P w K mg base N__law_ratio_fits "_law_ratio_fits" (defScope s__law_ratio_fits) f cdv A outer s H E) (defBody s__law_ratio_fits) (t__law_ratio_fits Xd) := by
  have nd := (sc__law_ratio_fits).nd
  have pas : PassesOwn (model P w) (cxOf (L2.CX P w) P w K mg base N__law_ratio_fits "_law_ratio_fits" (defScope s__law_ratio_fits) f cdv A outer s H E).A (cxOf (L2.CX P w) P w K mg base N__law_ratio_fits "_law_ratio_fits" (defScope s__law_ratio_fits) f cdv A outer s H E).env (cxOf (L2.CX P w) P w K mg base N__law_ratio_fits "_law_ratio_fits" (defScope s__law_ratio_fits) f cdv A outer s H E).xe := passes_of rfl
  exact pdss_cons (pds_if (PDW.pdt (pdw_or (pdt_not (pdt_val (pd_isi (T := "tuple") rfl T.b_isinstance rfl T.b_tuple PyProof.Rows.boot_tuple (pd_var 0 (pv 0))))) (pdw_or1 (pdt_ne hr (pd_len rfl T.b_len (pda_cons (pd_var 0 (pv 0)) (pda_nil))) (pd_int))))) (pdss_one (pds_ret (pd_bl))) (pdss_nil))
      (pdss_cons (pds_if (PDW.pdt (pdw_or (pdt_not (pdt_val (pd_cal C__law_integer hr rfl tk (pda_cons (pd_ix (pd_var 0 (pv 0)) (pd_int)) (pda_nil))))) (pdw_or1 (pdt_not (pdt_val (pd_cal C__law_integer hr rfl tk (pda_cons (pd_ix (pd_var 0 (pv 0)) (pd_int)) (pda_nil)))))))) (pdss_one (pds_ret (pd_bl))) (pdss_nil))
      (pdss_cons (pds_if (PDW.pdt (pdw_or (pdt_lt (pd_ix (pd_var 0 (pv 0)) (pd_int)) (pd_neg (pd_int))) (pdw_or (pdt_gt (pd_ix (pd_var 0 (pv 0)) (pd_int)) (pd_int)) (pdw_or (pdt_lt (pd_ix (pd_var 0 (pv 0)) (pd_int)) (pd_int)) (pdw_or1 (pdt_gt (pd_ix (pd_var 0 (pv 0)) (pd_int)) (pd_int))))))) (pdss_one (pds_ret (pd_bl))) (pdss_nil))
      (pdss_one (pds_ret (pd_eq hr (pd_cal C__law_common hr rfl tk (pda_cons (pd_callB cD_abs call_abs rfl T.b_abs PyProof.Rows.boot_abs (pda_cons (pd_ix (pd_var 0 (pv 0)) (pd_int)) (pda_nil))) (pda_cons (pd_ix (pd_var 0 (pv 0)) (pd_int)) (pda_nil)))) (pd_int))))))
theorem d__law_word_of {f : Addr} {aBR : Addr} {aSE : Addr} {aBF : Addr} (T : Tx K mg cls flds aBR aSE aBF) (C__law_pick : Cal P w K mg base cls flds k "_law_pick" sp__law_pick) (C__law_choice : Cal P w K mg base cls flds k "_law_choice" sp__law_choice) (C__law_spelled : Cal P w K mg base cls flds k "_law_spelled" sp__law_spelled) (C__law_reserved : Cal P w K mg base cls flds k "_law_reserved" sp__law_reserved) (Fr : Frm) (Xd : Str → List D → Prop) (cdv : Value) (A : Around) (outer : List Env) (s : Shared) (H : Hp) (E : XK) (hr : Room k (A.deeper (envOfC "_law_word_of" (defScope s__law_word_of) s.heap.objs.size f cdv))) (tk : Takes (cxOf (L2.CX P w) P w K mg base N__law_word_of "_law_word_of" (defScope s__law_word_of) f cdv A outer s H E) (LW ⟨K, cls, flds⟩ Fr fun c es _ => Xd c es)) :
    PDSs ⟨K, cls, flds⟩ Fr (cxOf (L2.CX P w) P w K mg base N__law_word_of "_law_word_of" (defScope s__law_word_of) f cdv A outer s H E) (defBody s__law_word_of) (t__law_word_of Xd) := by
  have nd := (sc__law_word_of).nd
  have pas : PassesOwn (model P w) (cxOf (L2.CX P w) P w K mg base N__law_word_of "_law_word_of" (defScope s__law_word_of) f cdv A outer s H E).A (cxOf (L2.CX P w) P w K mg base N__law_word_of "_law_word_of" (defScope s__law_word_of) f cdv A outer s H E).env (cxOf (L2.CX P w) P w K mg base N__law_word_of "_law_word_of" (defScope s__law_word_of) f cdv A outer s H E).xe := passes_of rfl
  exact pdss_cons (pds_set (i := 1) nd rfl (by first | exact .inl rfl | exact .inr rfl) (pd_cal C__law_pick hr rfl tk (pda_cons (pd_var 0 (pv 0)) (pda_cons (pd_int) (pda_nil)))))
      (pdss_cons (pds_if (pdt_eq hr (pd_var 1 (pv 1)) (pd_int)) (pdss_one (pds_ret (pd_cal C__law_choice hr rfl tk (pda_cons (pd_var 0 (pv 0)) (pda_cons (pd_fresh (pdf_lst (pda_cons (pd_non) (pda_cons (pd_bl) (pda_cons (pd_int) (pda_cons (pd_tup (pda_cons (pd_str) (pda_nil))) (pda_cons (pd_fresh (pdf_lst (pda_cons (pd_str) (pda_nil)))) (pda_cons (pd_tup (pda_nil)) (pda_cons (pd_pow (pd_int) (pd_int)) (pda_nil)))))))))) (pda_nil)))))) (pdss_nil))
      (pdss_cons (pds_set (i := 2) nd rfl (by first | exact .inl rfl | exact .inr rfl) (pd_cal C__law_spelled hr rfl tk (pda_cons (pd_var 0 (pv 0)) (pda_cons (pd_cal C__law_pick hr rfl tk (pda_cons (pd_var 0 (pv 0)) (pda_cons (pd_int) (pda_nil)))) (pda_nil)))))
      (pdss_cons (pds_if (pdt_lt (pd_var 1 (pv 1)) (pd_int)) (pdss_one (pds_set (i := 2) nd rfl (by first | exact .inl rfl | exact .inr rfl) (pd_cal C__law_choice hr rfl tk (pda_cons (pd_var 0 (pv 0)) (pda_cons (pd_cal0 C__law_reserved hr rfl tk) (pda_nil)))))) (pdss_nil))
      (pdss_cons (pds_set (i := 3) nd rfl (by first | exact .inl rfl | exact .inr rfl) (pd_cal C__law_pick hr rfl tk (pda_cons (pd_var 0 (pv 0)) (pda_cons (pd_int) (pda_nil)))))
      (pdss_cons (pds_set (i := 4) nd rfl (by first | exact .inl rfl | exact .inr rfl) (pd_cal C__law_pick hr rfl tk (pda_cons (pd_var 0 (pv 0)) (pda_cons (pd_add (pd_len rfl T.b_len (pda_cons (pd_var 2 (pv 2)) (pda_nil))) (pd_int)) (pda_nil)))))
      (pdss_cons (pds_set (i := 5) nd rfl (by first | exact .inl rfl | exact .inr rfl) (pd_cal C__law_choice hr rfl tk (pda_cons (pd_var 0 (pv 0)) (pda_cons (pd_fresh (pdf_lst (pda_cons (pd_str) (pda_cons (pd_str) (pda_cons (pd_str) (pda_cons (pd_str) (pda_cons (pd_str) (pda_cons (pd_str) (pda_cons (pd_str) (pda_cons (pd_str) (pda_cons (pd_str) (pda_cons (pd_str) (pda_cons (pd_str) (pda_cons (pd_str) (pda_cons (pd_str) (pda_cons (pd_str) (pda_nil))))))))))))))))) (pda_nil)))))
      (pdss_cons (pds_if (pdt_eq hr (pd_var 3 (pv 3)) (pd_int)) (pdss_one (pds_set (i := 2) nd rfl (by first | exact .inl rfl | exact .inr rfl) (pd_add (pd_add (pd_slice (pd_var 2 (pv 2)) (pdo_none) (pdo_some (pd_var 4 (pv 4)))) (pd_var 5 (pv 5))) (pd_slice (pd_var 2 (pv 2)) (pdo_some (pd_var 4 (pv 4))) (pdo_none))))) (pdss_nil))
      (pdss_cons (pds_if (pdt_eq hr (pd_var 3 (pv 3)) (pd_int)) (pdss_one (pds_set (i := 2) nd rfl (by first | exact .inl rfl | exact .inr rfl) (pd_add (pd_slice (pd_var 2 (pv 2)) (pdo_none) (pdo_some (pd_var 4 (pv 4)))) (pd_slice (pd_var 2 (pv 2)) (pdo_some (pd_add (pd_var 4 (pv 4)) (pd_int))) (pdo_none))))) (pdss_nil))
      (pdss_cons (pds_if (pdt_eq hr (pd_var 3 (pv 3)) (pd_int)) (pdss_one (pds_set (i := 2) nd rfl (by first | exact .inl rfl | exact .inr rfl) (pd_add (pd_add (pd_slice (pd_var 2 (pv 2)) (pdo_none) (pdo_some (pd_var 4 (pv 4)))) (pd_var 5 (pv 5))) (pd_slice (pd_var 2 (pv 2)) (pdo_some (pd_add (pd_var 4 (pv 4)) (pd_int))) (pdo_none))))) (pdss_nil))
      (pdss_one (pds_ret (pd_var 2 (pv 2)))))))))))))
theorem d__law_name_fits {f : Addr} {aBR : Addr} {aSE : Addr} {aBF : Addr} (T : Tx K mg cls flds aBR aSE aBF) (C__law_reserved : Cal P w K mg base cls flds k "_law_reserved" sp__law_reserved) (Fr : Frm) (Xd : Str → List D → Prop) (cdv : Value) (A : Around) (outer : List Env) (s : Shared) (H : Hp) (E : XK) (hr : Room k (A.deeper (envOfC "_law_name_fits" (defScope s__law_name_fits) s.heap.objs.size f cdv))) (tk : Takes (cxOf (L2.CX P w) P w K mg base N__law_name_fits "_law_name_fits" (defScope s__law_name_fits) f cdv A outer s H E) (LW ⟨K, cls, flds⟩ Fr fun c es _ => Xd c es)) :
    PDSs ⟨K, cls, flds⟩ Fr (cxOf (L2.CX P w) P w K mg base N__law_name_fits "_law_name_fits" (defScope s__law_name_fits) f cdv A outer s H E) (defBody s__law_name_fits) (t__law_name_fits Xd) := by
  have nd := (sc__law_name_fits).nd
  have pas : PassesOwn (model P w) (cxOf (L2.CX P w) P w K mg base N__law_name_fits "_law_name_fits" (defScope s__law_name_fits) f cdv A outer s H E).A (cxOf (L2.CX P w) P w K mg base N__law_name_fits "_law_name_fits" (defScope s__law_name_fits) f cdv A outer s H E).env (cxOf (L2.CX P w) P w K mg base N__law_name_fits "_law_name_fits" (defScope s__law_name_fits) f cdv A outer s H E).xe := passes_of rfl
  exact pdss_cons (pds_if (PDW.pdt (pdw_or (pdt_not (pdt_val (pd_isi (T := "str") rfl T.b_isinstance rfl T.b_str PyProof.Rows.boot_str (pd_var 0 (pv 0))))) (pdw_or1 (pdt_in hr (pd_var 0 (pv 0)) (pd_cal0 C__law_reserved hr rfl tk))))) (pdss_one (pds_ret (pd_bl))) (pdss_nil))
      (pdss_cons (pds_if (PDW.pdt (pdw_or (pdt_lt (pd_len rfl T.b_len (pda_cons (pd_var 0 (pv 0)) (pda_nil))) (pd_int)) (pdw_or1 (pdt_gt (pd_len rfl T.b_len (pda_cons (pd_var 0 (pv 0)) (pda_nil))) (pd_int))))) (pdss_one (pds_ret (pd_bl))) (pdss_nil))
      (pdss_one (pds_ret (pd_eq hr (pd_fresh (pdf_comp (own := [("sign", 1)]) rfl nd (pdi_seq (pd_var 0 (pv 0))) (blkOk_by (N := N__law_name_fits) (sc := defScope s__law_name_fits) (by decide +kernel)) (fun _ _ _ _ _ _ => pdg_name (i := 1) nd rfl (by first | exact .inl rfl | exact .inr rfl)) (fun _ _ _ _ _ _ => pdts_one (pdt_notIn hr (pd_var 1 (pv 1)) (pd_str))) (fun _ _ _ _ _ _ => pd_var 1 (pv 1)))) (pd_fresh (pdf_lst (pda_nil)))))))
theorem d__law_names_right {f : Addr} {aBR : Addr} {aSE : Addr} {aBF : Addr} (T : Tx K mg cls flds aBR aSE aBF) (C__law_word_of : Cal P w K mg base cls flds k "_law_word_of" sp__law_word_of) (C_is_name : Cal P w K mg base cls flds k "is_name" sp_is_name) (C__law_name_fits : Cal P w K mg base cls flds k "_law_name_fits" sp__law_name_fits) (C__law_truth : Cal P w K mg base cls flds k "_law_truth" sp__law_truth) (C__law_odd_ratio : Cal P w K mg base cls flds k "_law_odd_ratio" sp__law_odd_ratio) (C_is_ratio : Cal P w K mg base cls flds k "is_ratio" sp_is_ratio) (C__law_ratio_fits : Cal P w K mg base cls flds k "_law_ratio_fits" sp__law_ratio_fits) (C__law_lists : Cal P w K mg base cls flds k "_law_lists" (sp__law_lists 8)) (C__law_reserved : Cal P w K mg base cls flds k "_law_reserved" sp__law_reserved) (C__law_plain : Cal P w K mg base cls flds k "_law_plain" (sp__law_plain 8)) (Fr : Frm) (Xd : Str → List D → Prop) (cdv : Value) (A : Around) (outer : List Env) (s : Shared) (H : Hp) (E : XK) (hr : Room k (A.deeper (envOfC "_law_names_right" (defScope s__law_names_right) s.heap.objs.size f cdv))) (tk : Takes (cxOf (L2.CX P w) P w K mg base N__law_names_right "_law_names_right" (defScope s__law_names_right) f cdv A outer s H E) (LW ⟨K, cls, flds⟩ Fr fun c es _ => Xd c es)) :
    PDSs ⟨K, cls, flds⟩ Fr (cxOf (L2.CX P w) P w K mg base N__law_names_right "_law_names_right" (defScope s__law_names_right) f cdv A outer s H E) (defBody s__law_names_right) (t__law_names_right Xd) := by
  have nd := (sc__law_names_right).nd
  have pas : PassesOwn (model P w) (cxOf (L2.CX P w) P w K mg base N__law_names_right "_law_names_right" (defScope s__law_names_right) f cdv A outer s H E).A (cxOf (L2.CX P w) P w K mg base N__law_names_right "_law_names_right" (defScope s__law_names_right) f cdv A outer s H E).env (cxOf (L2.CX P w) P w K mg base N__law_names_right "_law_names_right" (defScope s__law_names_right) f cdv A outer s H E).xe := passes_of rfl
  exact pdss_cons (pds_for (ws := [1]) pas rfl (pdi_range1 rfl T.b_range (pda_cons (pd_int) (pda_nil))) (pdg_name (i := 1) nd rfl (by first | exact .inl rfl | exact .inr rfl)) (pdss_cons (pds_set (i := 2) nd rfl (by first | exact .inl rfl | exact .inr rfl) (pd_cal C__law_word_of hr rfl tk (pda_cons (pd_var 0 (pv 0)) (pda_nil))))
      (pdss_cons (pds_if (pdt_not (pdt_val (pd_cal C__law_truth hr rfl tk (pda_cons (pd_cal C_is_name hr rfl tk (pda_cons (pd_var 2 (pv 2)) (pda_nil))) (pda_cons (pd_cal C__law_name_fits hr rfl tk (pda_cons (pd_var 2 (pv 2)) (pda_nil))) (pda_nil)))))) (pdss_one (pds_ret (pd_bl))) (pdss_nil))
      (pdss_cons (pds_set (i := 2) nd rfl (by first | exact .inl rfl | exact .inr rfl) (pd_cal C__law_odd_ratio hr rfl tk (pda_cons (pd_var 0 (pv 0)) (pda_nil))))
      (pdss_cons (pds_if (pdt_not (pdt_val (pd_cal C__law_truth hr rfl tk (pda_cons (pd_cal C_is_ratio hr rfl tk (pda_cons (pd_var 2 (pv 2)) (pda_nil))) (pda_cons (pd_cal C__law_ratio_fits hr rfl tk (pda_cons (pd_var 2 (pv 2)) (pda_nil))) (pda_nil)))))) (pdss_one (pds_ret (pd_bl))) (pdss_nil))
      (pdss_one (pds_if (pdt_not (pdt_val (pd_cal C__law_truth hr rfl tk (pda_cons (pd_cal C_is_ratio hr rfl tk (pda_cons (pd_cal C__law_lists hr rfl tk (pda_cons (pd_var 2 (pv 2)) (pda_nil))) (pda_nil))) (pda_cons (pd_cal C__law_ratio_fits hr rfl tk (pda_cons (pd_var 2 (pv 2)) (pda_nil))) (pda_nil)))))) (pdss_one (pds_ret (pd_bl))) (pdss_nil))))))))
      (pdss_cons (pds_for (ws := [3]) pas rfl (pdi_seq (pd_cal0 C__law_reserved hr rfl tk)) (pdg_name (i := 3) nd rfl (by first | exact .inl rfl | exact .inr rfl)) (pdss_one (pds_if (pdt_notB (pd_cal C_is_name hr rfl tk (pda_cons (pd_var 3 (pv 3)) (pda_nil))) (pd_bl)) (pdss_one (pds_ret (pd_bl))) (pdss_nil))))
      (pdss_one (pds_ret (pd_and (pd_isi (T := "tuple") rfl T.b_isinstance rfl T.b_tuple PyProof.Rows.boot_tuple (pd_const T.c_WORDS rfl)) (pd_and (pd_cal C__law_plain hr rfl tk (pda_cons (pd_const T.c_WORDS rfl) (pda_nil))) (pd_one (pd_eq hr (pd_fresh (pdf_list rfl T.b_list PyProof.Rows.boot_list (pda_cons (pd_const T.c_WORDS rfl) (pda_nil)))) (pd_cal0 C__law_reserved hr rfl tk))))))))
theorem d_law {f : Addr} {aBR : Addr} {aSE : Addr} {aBF : Addr} (T : Tx K mg cls flds aBR aSE aBF) (C__law_choice : Cal P w K mg base cls flds k "_law_choice" sp__law_choice) (C__law_pick : Cal P w K mg base cls flds k "_law_pick" sp__law_pick) (C__law_drawn : Cal P w K mg base cls flds k "_law_drawn" sp__law_drawn) (C__law_sums_right : Cal P w K mg base cls flds k "_law_sums_right" sp__law_sums_right) (C__law_two_right : Cal P w K mg base cls flds k "_law_two_right" sp__law_two_right) (C__law_algebra : Cal P w K mg base cls flds k "_law_algebra" sp__law_algebra) (C__law_made_right : Cal P w K mg base cls flds k "_law_made_right" sp__law_made_right) (C__law_names_right : Cal P w K mg base cls flds k "_law_names_right" sp__law_names_right) (Fr : Frm) (Xd : Str → List D → Prop) (cdv : Value) (A : Around) (outer : List Env) (s : Shared) (H : Hp) (E : XK) (hr : Room k (A.deeper (envOfC "law" (defScope s_law) s.heap.objs.size f cdv))) (tk : Takes (cxOf (L2.CX P w) P w K mg base N_law "law" (defScope s_law) f cdv A outer s H E) (LW ⟨K, cls, flds⟩ Fr fun c es _ => Xd c es)) :
    PDSs ⟨K, cls, flds⟩ Fr (cxOf (L2.CX P w) P w K mg base N_law "law" (defScope s_law) f cdv A outer s H E) ((defBody s_law).drop 1) (t_law Xd) := by
  have nd := (sc_law).nd
  have pas : PassesOwn (model P w) (cxOf (L2.CX P w) P w K mg base N_law "law" (defScope s_law) f cdv A outer s H E).A (cxOf (L2.CX P w) P w K mg base N_law "law" (defScope s_law) f cdv A outer s H E).env (cxOf (L2.CX P w) P w K mg base N_law "law" (defScope s_law) f cdv A outer s H E).xe := passes_of rfl
  exact pdss_cons (pds_set (i := 2) nd rfl (by first | exact .inl rfl | exact .inr rfl) (pd_cal C__law_choice hr rfl tk (pda_cons (pd_var 1 (pv 1)) (pda_cons (pd_fresh (pdf_lst (pda_cons (pd_int) (pda_cons (pd_int) (pda_cons (pd_int) (pda_cons (pd_int) (pda_cons (pd_int) (pda_cons (pd_int) (pda_nil))))))))) (pda_nil)))))
      (pdss_cons (pds_setLc (i := 3) (own := [("k", 7)]) rfl nd rfl rfl (sw_true rfl rfl rfl (by decide +kernel)) (pdi_range1 rfl T.b_range (pda_cons (pd_cal C__law_pick hr rfl tk (pda_cons (pd_var 1 (pv 1)) (pda_cons (pd_int) (pda_nil)))) (pda_nil))) (blkOk_by (N := N_law) (sc := defScope s_law) (by decide +kernel)) (fun _ _ _ _ _ _ => pdg_name (i := 7) nd rfl (by first | exact .inl rfl | exact .inr rfl)) (fun _ _ _ _ _ _ => pdts_nil) (fun _ _ _ _ _ _ => pd_cal C__law_drawn hr rfl takesNo (pda_cons (pd_var 1 (pv 1)) (pda_cons (pd_var 2 (pv 2)) (pda_nil)))))
      (pdss_cons (pds_set (i := 4) nd rfl (by first | exact .inl rfl | exact .inr rfl) (pd_cal C__law_drawn hr rfl tk (pda_cons (pd_var 1 (pv 1)) (pda_cons (pd_var 2 (pv 2)) (pda_nil)))))
      (pdss_cons (pds_set (i := 5) nd rfl (by first | exact .inl rfl | exact .inr rfl) (pd_cal C__law_drawn hr rfl tk (pda_cons (pd_var 1 (pv 1)) (pda_cons (pd_var 2 (pv 2)) (pda_nil)))))
      (pdss_cons (pds_set (i := 6) nd rfl (by first | exact .inl rfl | exact .inr rfl) (pd_cal C__law_pick hr rfl tk (pda_cons (pd_var 1 (pv 1)) (pda_cons (pd_int) (pda_nil)))))
      (pdss_cons (pds_if (pdt_eq hr (pd_var 6 (pv 6)) (pd_int)) (pdss_one (pds_set (i := 5) nd rfl (by first | exact .inl rfl | exact .inr rfl) (pd_var 4 (pv 4)))) (pdss_nil))
      (pdss_cons (pds_if (pdt_eq hr (pd_var 6 (pv 6)) (pd_int)) (pdss_one (pds_set (i := 5) nd rfl (by first | exact .inl rfl | exact .inr rfl) (pd_tup (pda_cons (pd_neg (pd_ix (pd_var 4 (pv 4)) (pd_int))) (pda_cons (pd_ix (pd_var 4 (pv 4)) (pd_int)) (pda_nil)))))) (pdss_nil))
      (pdss_cons (pds_if (pdt_eq hr (pd_var 6 (pv 6)) (pd_int)) (pdss_one (pds_set (i := 5) nd rfl (by first | exact .inl rfl | exact .inr rfl) (pd_tup (pda_cons (pd_ix (pd_var 4 (pv 4)) (pd_int)) (pda_cons (pd_int) (pda_nil)))))) (pdss_nil))
      (pdss_cons (pds_if (PDW.pdt (pdw_or (pdt_not (pdt_val (pd_cal C__law_sums_right hr rfl tk (pda_cons (pd_var 1 (pv 1)) (pda_cons (pd_var 3 (pv 3)) (pda_nil)))))) (pdw_or1 (pdt_not (pdt_val (pd_cal C__law_two_right hr rfl tk (pda_cons (pd_var 4 (pv 4)) (pda_cons (pd_var 5 (pv 5)) (pda_nil))))))))) (pdss_one (pds_ret (pd_bl))) (pdss_nil))
      (pdss_cons (pds_if (PDW.pdt (pdw_and (pdt_lt (pd_var 2 (pv 2)) (pd_int)) (pdw_and1 (pdt_not (pdt_val (pd_cal C__law_algebra hr rfl tk (pda_cons (pd_var 4 (pv 4)) (pda_cons (pd_var 5 (pv 5)) (pda_cons (pd_cal C__law_drawn hr rfl tk (pda_cons (pd_var 1 (pv 1)) (pda_cons (pd_var 2 (pv 2)) (pda_nil)))) (pda_nil)))))))))) (pdss_one (pds_ret (pd_bl))) (pdss_nil))
      (pdss_cons (pds_if (pdt_not (pdt_val (pd_cal C__law_made_right hr rfl tk (pda_cons (pd_var 1 (pv 1)) (pda_cons (pd_var 2 (pv 2)) (pda_nil)))))) (pdss_one (pds_ret (pd_bl))) (pdss_nil))
      (pdss_one (pds_ret (pd_cal C__law_names_right hr rfl tk (pda_cons (pd_var 1 (pv 1)) (pda_nil)))))))))))))))
abbrev s__law_pick : Stmt := top 22
theorem sc__law_pick : FnScope ["bag", "many", "number", "cell"] ["bag", "many"] (defScope s__law_pick) := ⟨rfl, rfl, rfl, by decide +kernel, rfl, by decide +kernel, by decide +kernel⟩
theorem d__law_pick {f : Addr} {aBR : Addr} {aSE : Addr} {aBF : Addr} (T : Tx K mg cls flds aBR aSE aBF) (cdv : Value) (A : Around) (outer : List Env) (s : Shared) (H : Hp) (E : XK) (hr : Room k (A.deeper (envOfC "_law_pick" (defScope s__law_pick) s.heap.objs.size f cdv))) :
    PSs (cxOf (L2.CX P w) P w K mg base ["bag", "many", "number", "cell"] "_law_pick" (defScope s__law_pick) f cdv A outer s H E) (defBody s__law_pick) (tPick K) := by
  have nd := sc__law_pick.nd
  have hu := hu_of hr
  exact pss_cons (ps_dput hu (pv 0) pe_str (pe_op op_add (pe_dget hu (pv 0) pe_str (by intro _ _; rfl)) pe_int) rfl)
    (pss_cons (ps_if (pt_cmpR op_gt (pe_dget hu (pv 0) pe_str (by intro _ _; rfl)) pe_int (nomark _))
      (pss_cons (ps_set (i := 2) nd rfl (.inl rfl) (pe_dget hu (pv 0) pe_str (by intro _ _; rfl))) (pss_cons (ps_dput hu (pv 0) pe_str (pe_op op_fdivW (pv 2) (pv 1)) rfl) (pss_one (ps_ret (pe_op op_mod (pe_callTy call_int1 rfl T.b_int PyProof.Rows.boot_int (pa_cons (pv 2) pa_nil)) (pv 1)))))) pss_nil)
    (pss_cons (ps_set (i := 3) nd rfl (.inl rfl) pe_int)
    (pss_cons (ps_if (pt_cmpR op_lt (pe_dget hu (pv 0) pe_str (by intro _ _; rfl)) (pe_callB call_len rfl T.b_len PySem.boot_len (pa_cons (pe_dget hu (pv 0) pe_str (by intro _ _; rfl)) pa_nil)) (nomark _))
      (pss_cons (ps_set (i := 3) nd rfl (.inl rfl) (pe_ix ix_seq (pe_dget hu (pv 0) pe_str (by intro _ _; rfl)) (pe_dget hu (pv 0) pe_str (by intro _ _; rfl)) (by intro _ _; rfl)))
      (pss_cons (ps_dput hu (pv 0) pe_str (pe_op op_add (pe_dget hu (pv 0) pe_str (by intro _ _; rfl)) pe_int) rfl)
      (pss_one (ps_if (pt_cmpR op_ge (pv 3) (pe_op op_pow pe_int pe_int) (nomark _)) (pss_cons (ps_dput hu (pv 0) pe_str (pe_op op_fdivW (pv 3) (pv 1)) rfl) (pss_one (ps_ret (pe_op op_mod (pe_callTy call_int1 rfl T.b_int PyProof.Rows.boot_int (pa_cons (pv 3) pa_nil)) (pv 1))))) pss_nil)))) pss_nil)
    (pss_cons (ps_set (i := 2) nd rfl (.inl rfl) (pe_op op_mod (pe_callTy call_int1 rfl T.b_int PyProof.Rows.boot_int (pa_cons (pe_op op_add (pe_op op_add (pe_op op_mulB (pv 3) pe_int) (pe_op op_mulB (pe_dget hu (pv 0) pe_str (by intro _ _; rfl)) pe_int)) (pe_op op_mulB (pe_dget hu (pv 0) pe_str (by intro _ _; rfl)) pe_int)) pa_nil)) pe_int))
    (pss_cons (ps_set (i := 2) nd rfl (.inl rfl) (pe_op op_mod (pe_callTy call_int1 rfl T.b_int PyProof.Rows.boot_int (pa_cons (pe_op op_add (pe_op op_mulB (pv 2) pe_int) pe_int) pa_nil)) pe_int))
    (pss_cons (ps_dput hu (pv 0) pe_str (pe_op op_mod (pe_callTy call_int1 rfl T.b_int PyProof.Rows.boot_int (pa_cons (pv 2) pa_nil)) pe_int) rfl)
    (pss_one (ps_ret (pe_op op_mod (pe_callTy call_int1 rfl T.b_int PyProof.Rows.boot_int (pa_cons (pe_op op_fdivW (pv 2) pe_int) pa_nil)) (pv 1))))))))))
abbrev s__law_bag_of : Stmt := top 21
abbrev N__law_bag_of : List Str := ["script", "mixed", "cell"]
theorem sc__law_bag_of : FnScope ["script", "mixed", "cell"] ["script"] (defScope s__law_bag_of) := ⟨rfl, rfl, rfl, by decide +kernel, rfl, by decide +kernel, by decide +kernel⟩
theorem d__law_bag_of {f : Addr} {aBR : Addr} {aSE : Addr} {aBF : Addr} (T : Tx K mg cls flds aBR aSE aBF) (Fr : Frm) (cdv : Value) (A : Around) (outer : List Env) (s : Shared) (H : Hp) (E : XK) (hr : Room k (A.deeper (envOfC "_law_bag_of" (defScope s__law_bag_of) s.heap.objs.size f cdv))) (tk : Takes (cxOf (L2.CX P w) P w K mg base ["script", "mixed", "cell"] "_law_bag_of" (defScope s__law_bag_of) f cdv A outer s H E) (LW ⟨K, cls, flds⟩ Fr noX)) :
    PSs (cxOf (L2.CX P w) P w K mg base ["script", "mixed", "cell"] "_law_bag_of" (defScope s__law_bag_of) f cdv A outer s H E) (defBody s__law_bag_of) (tBagOf ⟨K, cls, flds⟩ Fr) := by
  have nd := sc__law_bag_of.nd
  have pas : PassesOwn (model P w) (cxOf (L2.CX P w) P w K mg base ["script", "mixed", "cell"] "_law_bag_of" (defScope s__law_bag_of) f cdv A outer s H E).A (cxOf (L2.CX P w) P w K mg base ["script", "mixed", "cell"] "_law_bag_of" (defScope s__law_bag_of) f cdv A outer s H E).env (cxOf (L2.CX P w) P w K mg base ["script", "mixed", "cell"] "_law_bag_of" (defScope s__law_bag_of) f cdv A outer s H E).xe := passes_of rfl
  exact pss_cons (PDS.ps (pds_set (i := 1) nd rfl (by first | exact .inl rfl | exact .inr rfl) pd_int))
    (pss_cons (PDS.ps (pds_for (ws := [2]) pas rfl (pdi_seq (pd_var 0 (pv 0))) (pdg_name (i := 2) nd rfl (by first | exact .inl rfl | exact .inr rfl)) (pdss_one (pds_set (i := 1) nd rfl (by first | exact .inl rfl | exact .inr rfl) (pd_mod (pd_callTy cD_int call_int1 rfl T.b_int PyProof.Rows.boot_int (pda_cons (pd_add (pd_add (pd_mul (pd_var 1 (pv 1)) (pd_int)) (pd_var 2 (pv 2))) (pd_int)) pda_nil)) pd_int)))))
    (pss_one (ps_ret (pe_disp (pps_cons pe_str (PE.ex fun Fr => PDF.pe (pdf_comp (own := [("cell", 2)]) rfl nd (pdi_seq (pd_var 0 (pv 0))) (blkOk_by (N := N__law_bag_of) (sc := defScope s__law_bag_of) (by decide +kernel)) (fun _ _ _ _ _ _ => pdg_name (i := 2) nd rfl (by first | exact .inl rfl | exact .inr rfl)) (fun _ _ _ _ _ _ => pdts_nil) (fun _ _ _ _ _ _ => pd_var 2 (pv 2)))) (pps_cons pe_str pe_int (pps_cons pe_str pe_int (pps_cons pe_str (pv 1) (pps_cons pe_str pe_int pps_nil))))) rfl rfl (by simp) (by decide)))))
end
end K01

set_option Elab.async false
set_option linter.all false
set_option maxRecDepth 100000
set_option maxHeartbeats 4000000
/-! K01r: the readings keep the promises. -/
local macro_rules | `(tactic| walk_at "run") => `(tactic| simp -dsimp only [↓DL.e_while, ↓DL.e_seq, ↓DL.e_next, ↓DL.e_break, ↓DL.e_cont, ↓DL.e_drop, ↓DL.e_ret, ↓DL.e_retN, ↓DL.e_ifS, ↓DL.e_set, ↓DL.e_own, ↓DL.e_par, ↓DL.e_asg, ↓DL.e_kName, ↓DL.e_kNil, ↓DL.e_kCons, ↓DL.e_kTup, ↓DL.e_for, ↓DL.e_raise, ↓DL.e_try, ↓DL.e_var, ↓DL.e_c, ↓DL.e_op, ↓DL.e_un, ↓DL.e_if, ↓DL.e_andV, ↓DL.e_orV, ↓DL.e_notV, ↓DL.e_chain, ↓DL.e_B, ↓DL.e_and, ↓DL.e_or, ↓DL.e_not, ↓DL.e_yes, ↓DL.e_isi, ↓DL.e_CB, ↓DL.e_nil, ↓DL.e_cons, ↓DL.e_tup, ↓DL.e_fr, ↓DL.e_lst, ↓DL.e_listOf, ↓DL.e_call, ↓DL.e_seqIt, ↓DL.e_ran1, ↓DL.e_ran2, ↓DL.e_comp, ↓DL.e_lenOwn, ↓DL.e_ownM, ↓DL.e_strM, ↓DL.e_split, ↓DL.e_fmt, ↓DL.e_joined, ↓DL.e_js0, ↓DL.e_js, ↓DL.e_noPart, ↓DL.e_part, ↓DL.e_sl, ↓DL.e_xf, ↓DL.e_isE, DL.g_ifT, DL.g_ifF, DL.g_bl, DL.g_int, DL.g_str, DL.g_step, DL.g_some, DL.g_none, DL.g_slst, DL.g_stup, DL.g_sstr, DL.g_sscr, DL.gd_0, DL.gd_s, DL.sd_0, DL.sd_s, DL.g_par, DL.g_tupG, DL.g_vown, DL.g_vval, DL.g_listOft, DL.g_listOfl, DL.g_ran1, DL.g_ran2, DL.wipe_0, DL.wipe_s, DL.g_own, DL.g_append, DL.g_pop, DL.g_joinl, DL.g_joint, DL.g_fmts, DL.g_fmti, DL.g_slt, DL.g_sls, DL.o_int0, DL.o_int, DL.o_addi, DL.o_adds, DL.o_addt, DL.o_addl, DL.o_eqi, DL.o_nei, DL.o_isN, DL.o_notN, DL.o_bl2, DL.o_ixt, DL.o_ixl, DL.o_ixs, DL.o_inss, DL.o_int_, DL.o_inl, DL.l_lent, DL.l_lenl, DL.l_lens, DL.l_abs, DL.l_inti, DL.l_intb, DL.l_str, DL.l_tupt, DL.l_tupl, DL.l_all, DL.l_sum, DL.isB_non, DL.isB_bl, DL.isB_int, DL.isB_str, DL.isB_tup, DL.isB_lst, DL.isN_non, DL.isN_bl, DL.isN_int, DL.isN_str, DL.isN_tup, DL.isN_lst, DL.isN_ins, DL.g_exc, DL.g_gnx, DL.g_grt, DL.g_gbk, DL.g_gct, DL.d_eq1, DL.d_eq0, DL.d_lt1, DL.d_lt0, DL.d_le1, DL.d_le0, DL.at0, DL.at1, DL.at2, DL.at3, DL.at4, DL.at5, DL.kit_nn_int, DL.kit_nn_bool, DL.kit_nn_str, DL.kit_nn_tuple, DL.kit_nn_list, DL.kit_bool_int, DL.kit_bool_bool, DL.kit_bool_str, DL.kit_bool_tuple, DL.kit_bool_list, DL.kit_int_int, DL.kit_int_bool, DL.kit_int_str, DL.kit_int_tuple, DL.kit_int_list, DL.kit_str_int, DL.kit_str_bool, DL.kit_str_str, DL.kit_str_tuple, DL.kit_str_list, DL.kit_tuple_int, DL.kit_tuple_bool, DL.kit_tuple_str, DL.kit_tuple_tuple, DL.kit_tuple_list, DL.kit_list_int, DL.kit_list_bool, DL.kit_list_str, DL.kit_list_tuple, DL.kit_list_list, DL.own_non, DL.own_bl, DL.own_int, DL.own_str, DL.own_tup, DL.own_lst, DL.own_bag, DL.own_scr, DL.own_ins, DL.own_exc, DL.o_eq, DL.o_ne, DL.cmp_int, DL.cmp_bl, DL.cmp_non, DL.eq_int, true_and, and_true, Bool.not_true, Bool.not_false, DL.xcOf, List.length_cons, List.length_nil, DL.startD, List.map_cons, List.map_nil, List.replicate_succ, List.replicate_zero, List.cons_append, List.nil_append, Nat.reduceSub, Nat.reduceAdd, Int.cast_ofNat_Int, Int.natCast_zero, Int.natCast_one, decide_true, decide_false, not_false_eq_true, Int.reduceEq, Int.reduceLT, Int.reduceLE, Int.reduceNeg])
namespace K01
open PySem PySem.Spec L2 DL
abbrev endD (Q : D → Prop) : Endd := { nx := fun _ => Q .non, rt := Q, bk := fun _ => False, ct := fun _ => False }
theorem rd_is_integer {ds Q X} (h : sp_is_integer ds Q X) : t_is_integer X (endD Q) (startD 3 ds) := by
  match ds, h with
  | [d, .int lo, .int hi], ⟨h, q⟩ =>
    show t_is_integer X (endD Q) [some d, some (.int lo), some (.int hi)]
    cases d <;> simp -dsimp only [okN, Bool.false_eq_true] at h <;> simp -dsimp only [t_is_integer, ↓DL.e_while, ↓DL.e_seq, ↓DL.e_next, ↓DL.e_break, ↓DL.e_cont, ↓DL.e_drop, ↓DL.e_ret, ↓DL.e_retN, ↓DL.e_ifS, ↓DL.e_set, ↓DL.e_own, ↓DL.e_par, ↓DL.e_asg, ↓DL.e_kName, ↓DL.e_kNil, ↓DL.e_kCons, ↓DL.e_kTup, ↓DL.e_for, ↓DL.e_raise, ↓DL.e_try, ↓DL.e_var, ↓DL.e_c, ↓DL.e_op, ↓DL.e_un, ↓DL.e_if, ↓DL.e_andV, ↓DL.e_orV, ↓DL.e_notV, ↓DL.e_chain, ↓DL.e_B, ↓DL.e_and, ↓DL.e_or, ↓DL.e_not, ↓DL.e_yes, ↓DL.e_isi, ↓DL.e_CB, ↓DL.e_nil, ↓DL.e_cons, ↓DL.e_tup, ↓DL.e_fr, ↓DL.e_lst, ↓DL.e_listOf, ↓DL.e_call, ↓DL.e_seqIt, ↓DL.e_ran1, ↓DL.e_ran2, ↓DL.e_comp, ↓DL.e_lenOwn, ↓DL.e_ownM, ↓DL.e_strM, ↓DL.e_split, ↓DL.e_fmt, ↓DL.e_joined, ↓DL.e_js0, ↓DL.e_js, ↓DL.e_noPart, ↓DL.e_part, ↓DL.e_sl, ↓DL.e_xf, ↓DL.e_isE, DL.g_ifT, DL.g_ifF, DL.g_bl, DL.g_int, DL.g_str, DL.g_step, DL.g_some, DL.g_none, DL.g_slst, DL.g_stup, DL.g_sstr, DL.g_sscr, DL.gd_0, DL.gd_s, DL.sd_0, DL.sd_s, DL.g_par, DL.g_tupG, DL.g_vown, DL.g_vval, DL.g_listOft, DL.g_listOfl, DL.g_ran1, DL.g_ran2, DL.wipe_0, DL.wipe_s, DL.g_own, DL.g_append, DL.g_pop, DL.g_joinl, DL.g_joint, DL.g_fmts, DL.g_fmti, DL.g_slt, DL.g_sls, DL.o_int0, DL.o_int, DL.o_addi, DL.o_adds, DL.o_addt, DL.o_addl, DL.o_eqi, DL.o_nei, DL.o_isN, DL.o_notN, DL.o_bl2, DL.o_ixt, DL.o_ixl, DL.o_ixs, DL.o_inss, DL.o_int_, DL.o_inl, DL.l_lent, DL.l_lenl, DL.l_lens, DL.l_abs, DL.l_inti, DL.l_intb, DL.l_str, DL.l_tupt, DL.l_tupl, DL.l_all, DL.l_sum, DL.isB_non, DL.isB_bl, DL.isB_int, DL.isB_str, DL.isB_tup, DL.isB_lst, DL.isN_non, DL.isN_bl, DL.isN_int, DL.isN_str, DL.isN_tup, DL.isN_lst, DL.isN_ins, DL.g_exc, DL.g_gnx, DL.g_grt, DL.g_gbk, DL.g_gct, DL.d_eq1, DL.d_eq0, DL.d_lt1, DL.d_lt0, DL.d_le1, DL.d_le0, DL.at0, DL.at1, DL.at2, DL.at3, DL.at4, DL.at5, DL.kit_nn_int, DL.kit_nn_bool, DL.kit_nn_str, DL.kit_nn_tuple, DL.kit_nn_list, DL.kit_bool_int, DL.kit_bool_bool, DL.kit_bool_str, DL.kit_bool_tuple, DL.kit_bool_list, DL.kit_int_int, DL.kit_int_bool, DL.kit_int_str, DL.kit_int_tuple, DL.kit_int_list, DL.kit_str_int, DL.kit_str_bool, DL.kit_str_str, DL.kit_str_tuple, DL.kit_str_list, DL.kit_tuple_int, DL.kit_tuple_bool, DL.kit_tuple_str, DL.kit_tuple_tuple, DL.kit_tuple_list, DL.kit_list_int, DL.kit_list_bool, DL.kit_list_str, DL.kit_list_tuple, DL.kit_list_list, DL.own_non, DL.own_bl, DL.own_int, DL.own_str, DL.own_tup, DL.own_lst, DL.own_bag, DL.own_scr, DL.own_ins, DL.own_exc, DL.o_eq, DL.o_ne, DL.cmp_int, DL.cmp_bl, DL.cmp_non, DL.eq_int, true_and, and_true, Bool.not_true, Bool.not_false, DL.xcOf, List.length_cons, List.length_nil, DL.startD, List.map_cons, List.map_nil, List.replicate_succ, List.replicate_zero, List.cons_append, List.nil_append, Nat.reduceSub, Nat.reduceAdd, Int.cast_ofNat_Int, Int.natCast_zero, Int.natCast_one, decide_true, decide_false, not_false_eq_true, Int.reduceEq, Int.reduceLT, Int.reduceLE, Int.reduceNeg] <;> (first | exact q | skip)
    rename_i i
    refine if_dec (fun h1 => ?_) (fun h1 => ?_)
    · simp -dsimp only [inRng, h1, decide_true, Bool.true_and] at q
      exact q
    · simp -dsimp only [inRng, h1, decide_false, Bool.false_and] at q
      exact q
theorem ix0 {a b : D} : atI [a, b] 0 = some a := rfl
theorem ix1 {a b : D} : atI [a, b] 1 = some b := rfl
theorem common_loop {Q : D → Prop} {X : Str → List D → Prop} {a b : Int} (ha : 0 ≤ a) (hb : 0 ≤ b) (q : Q (.int (gcdI a b))) : t_common X (endD Q) [some (.int a), some (.int b)] := by
  refine ⟨fun m s => ∃ a b : Int, s = [some (.int a), some (.int b)] ∧ 0 ≤ a ∧ 0 ≤ b ∧ b.toNat = m ∧ Q (.int (gcdI a b)), ⟨_, a, b, rfl, ha, hb, rfl, q⟩, ?_⟩
  rintro m s ⟨a, b, rfl, ha, hb, rfl, q⟩
  simp -dsimp only [↓DL.e_while, ↓DL.e_seq, ↓DL.e_next, ↓DL.e_break, ↓DL.e_cont, ↓DL.e_drop, ↓DL.e_ret, ↓DL.e_retN, ↓DL.e_ifS, ↓DL.e_set, ↓DL.e_own, ↓DL.e_par, ↓DL.e_asg, ↓DL.e_kName, ↓DL.e_kNil, ↓DL.e_kCons, ↓DL.e_kTup, ↓DL.e_for, ↓DL.e_raise, ↓DL.e_try, ↓DL.e_var, ↓DL.e_c, ↓DL.e_op, ↓DL.e_un, ↓DL.e_if, ↓DL.e_andV, ↓DL.e_orV, ↓DL.e_notV, ↓DL.e_chain, ↓DL.e_B, ↓DL.e_and, ↓DL.e_or, ↓DL.e_not, ↓DL.e_yes, ↓DL.e_isi, ↓DL.e_CB, ↓DL.e_nil, ↓DL.e_cons, ↓DL.e_tup, ↓DL.e_fr, ↓DL.e_lst, ↓DL.e_listOf, ↓DL.e_call, ↓DL.e_seqIt, ↓DL.e_ran1, ↓DL.e_ran2, ↓DL.e_comp, ↓DL.e_lenOwn, ↓DL.e_ownM, ↓DL.e_strM, ↓DL.e_split, ↓DL.e_fmt, ↓DL.e_joined, ↓DL.e_js0, ↓DL.e_js, ↓DL.e_noPart, ↓DL.e_part, ↓DL.e_sl, ↓DL.e_xf, ↓DL.e_isE, DL.g_ifT, DL.g_ifF, DL.g_bl, DL.g_int, DL.g_str, DL.g_step, DL.g_some, DL.g_none, DL.g_slst, DL.g_stup, DL.g_sstr, DL.g_sscr, DL.gd_0, DL.gd_s, DL.sd_0, DL.sd_s, DL.g_par, DL.g_tupG, DL.g_vown, DL.g_vval, DL.g_listOft, DL.g_listOfl, DL.g_ran1, DL.g_ran2, DL.wipe_0, DL.wipe_s, DL.g_own, DL.g_append, DL.g_pop, DL.g_joinl, DL.g_joint, DL.g_fmts, DL.g_fmti, DL.g_slt, DL.g_sls, DL.o_int0, DL.o_int, DL.o_addi, DL.o_adds, DL.o_addt, DL.o_addl, DL.o_eqi, DL.o_nei, DL.o_isN, DL.o_notN, DL.o_bl2, DL.o_ixt, DL.o_ixl, DL.o_ixs, DL.o_inss, DL.o_int_, DL.o_inl, DL.l_lent, DL.l_lenl, DL.l_lens, DL.l_abs, DL.l_inti, DL.l_intb, DL.l_str, DL.l_tupt, DL.l_tupl, DL.l_all, DL.l_sum, DL.isB_non, DL.isB_bl, DL.isB_int, DL.isB_str, DL.isB_tup, DL.isB_lst, DL.isN_non, DL.isN_bl, DL.isN_int, DL.isN_str, DL.isN_tup, DL.isN_lst, DL.isN_ins, DL.g_exc, DL.g_gnx, DL.g_grt, DL.g_gbk, DL.g_gct, DL.d_eq1, DL.d_eq0, DL.d_lt1, DL.d_lt0, DL.d_le1, DL.d_le0, DL.at0, DL.at1, DL.at2, DL.at3, DL.at4, DL.at5, DL.kit_nn_int, DL.kit_nn_bool, DL.kit_nn_str, DL.kit_nn_tuple, DL.kit_nn_list, DL.kit_bool_int, DL.kit_bool_bool, DL.kit_bool_str, DL.kit_bool_tuple, DL.kit_bool_list, DL.kit_int_int, DL.kit_int_bool, DL.kit_int_str, DL.kit_int_tuple, DL.kit_int_list, DL.kit_str_int, DL.kit_str_bool, DL.kit_str_str, DL.kit_str_tuple, DL.kit_str_list, DL.kit_tuple_int, DL.kit_tuple_bool, DL.kit_tuple_str, DL.kit_tuple_tuple, DL.kit_tuple_list, DL.kit_list_int, DL.kit_list_bool, DL.kit_list_str, DL.kit_list_tuple, DL.kit_list_list, DL.own_non, DL.own_bl, DL.own_int, DL.own_str, DL.own_tup, DL.own_lst, DL.own_bag, DL.own_scr, DL.own_ins, DL.own_exc, DL.o_eq, DL.o_ne, DL.cmp_int, DL.cmp_bl, DL.cmp_non, DL.eq_int, true_and, and_true, Bool.not_true, Bool.not_false, DL.xcOf, List.length_cons, List.length_nil, DL.startD, List.map_cons, List.map_nil, List.replicate_succ, List.replicate_zero, List.cons_append, List.nil_append, Nat.reduceSub, Nat.reduceAdd, Int.cast_ofNat_Int, Int.natCast_zero, Int.natCast_one, decide_true, decide_false, not_false_eq_true, Int.reduceEq, Int.reduceLT, Int.reduceLE, Int.reduceNeg, decide_eq_true_eq]
  by_cases h : 0 < b
  · rw [if_pos h]
    have e := emod_rng (i := a) (j := b) h
    exact ⟨h, _, by omega, b, a % b, rfl, by omega, by omega, rfl, by rw [gcdI_step ha h]; exact q⟩
  · rw [if_neg h]
    have : b = 0 := by omega
    subst this
    rw [gcdI_zero ha] at q
    exact q
theorem rd_common {ds Q X} (h : sp_common ds Q X) : t_common X (endD Q) (startD 2 ds) := by
  match ds, h with
  | [.int a, .int b], ⟨ha, hb, q⟩ => exact common_loop ha hb q
theorem rd__law_common {ds Q X} (h : sp__law_common ds Q X) : t__law_common X (endD Q) (startD 2 ds) := by
  match ds, h with
  | [.int a, .int b], ⟨ha, hb, q⟩ =>
    refine ⟨fun m s => ∃ a b : Int, s = [some (.int a), some (.int b)] ∧ 0 ≤ a ∧ 0 ≤ b ∧ b.toNat = m ∧ Q (.int (gcdI a b)), ⟨_, a, b, rfl, ha, hb, rfl, q⟩, ?_⟩
    rintro m s ⟨a, b, rfl, ha, hb, rfl, q⟩
    simp -dsimp only [↓DL.e_while, ↓DL.e_seq, ↓DL.e_next, ↓DL.e_break, ↓DL.e_cont, ↓DL.e_drop, ↓DL.e_ret, ↓DL.e_retN, ↓DL.e_ifS, ↓DL.e_set, ↓DL.e_own, ↓DL.e_par, ↓DL.e_asg, ↓DL.e_kName, ↓DL.e_kNil, ↓DL.e_kCons, ↓DL.e_kTup, ↓DL.e_for, ↓DL.e_raise, ↓DL.e_try, ↓DL.e_var, ↓DL.e_c, ↓DL.e_op, ↓DL.e_un, ↓DL.e_if, ↓DL.e_andV, ↓DL.e_orV, ↓DL.e_notV, ↓DL.e_chain, ↓DL.e_B, ↓DL.e_and, ↓DL.e_or, ↓DL.e_not, ↓DL.e_yes, ↓DL.e_isi, ↓DL.e_CB, ↓DL.e_nil, ↓DL.e_cons, ↓DL.e_tup, ↓DL.e_fr, ↓DL.e_lst, ↓DL.e_listOf, ↓DL.e_call, ↓DL.e_seqIt, ↓DL.e_ran1, ↓DL.e_ran2, ↓DL.e_comp, ↓DL.e_lenOwn, ↓DL.e_ownM, ↓DL.e_strM, ↓DL.e_split, ↓DL.e_fmt, ↓DL.e_joined, ↓DL.e_js0, ↓DL.e_js, ↓DL.e_noPart, ↓DL.e_part, ↓DL.e_sl, ↓DL.e_xf, ↓DL.e_isE, DL.g_ifT, DL.g_ifF, DL.g_bl, DL.g_int, DL.g_str, DL.g_step, DL.g_some, DL.g_none, DL.g_slst, DL.g_stup, DL.g_sstr, DL.g_sscr, DL.gd_0, DL.gd_s, DL.sd_0, DL.sd_s, DL.g_par, DL.g_tupG, DL.g_vown, DL.g_vval, DL.g_listOft, DL.g_listOfl, DL.g_ran1, DL.g_ran2, DL.wipe_0, DL.wipe_s, DL.g_own, DL.g_append, DL.g_pop, DL.g_joinl, DL.g_joint, DL.g_fmts, DL.g_fmti, DL.g_slt, DL.g_sls, DL.o_int0, DL.o_int, DL.o_addi, DL.o_adds, DL.o_addt, DL.o_addl, DL.o_eqi, DL.o_nei, DL.o_isN, DL.o_notN, DL.o_bl2, DL.o_ixt, DL.o_ixl, DL.o_ixs, DL.o_inss, DL.o_int_, DL.o_inl, DL.l_lent, DL.l_lenl, DL.l_lens, DL.l_abs, DL.l_inti, DL.l_intb, DL.l_str, DL.l_tupt, DL.l_tupl, DL.l_all, DL.l_sum, DL.isB_non, DL.isB_bl, DL.isB_int, DL.isB_str, DL.isB_tup, DL.isB_lst, DL.isN_non, DL.isN_bl, DL.isN_int, DL.isN_str, DL.isN_tup, DL.isN_lst, DL.isN_ins, DL.g_exc, DL.g_gnx, DL.g_grt, DL.g_gbk, DL.g_gct, DL.d_eq1, DL.d_eq0, DL.d_lt1, DL.d_lt0, DL.d_le1, DL.d_le0, DL.at0, DL.at1, DL.at2, DL.at3, DL.at4, DL.at5, DL.kit_nn_int, DL.kit_nn_bool, DL.kit_nn_str, DL.kit_nn_tuple, DL.kit_nn_list, DL.kit_bool_int, DL.kit_bool_bool, DL.kit_bool_str, DL.kit_bool_tuple, DL.kit_bool_list, DL.kit_int_int, DL.kit_int_bool, DL.kit_int_str, DL.kit_int_tuple, DL.kit_int_list, DL.kit_str_int, DL.kit_str_bool, DL.kit_str_str, DL.kit_str_tuple, DL.kit_str_list, DL.kit_tuple_int, DL.kit_tuple_bool, DL.kit_tuple_str, DL.kit_tuple_tuple, DL.kit_tuple_list, DL.kit_list_int, DL.kit_list_bool, DL.kit_list_str, DL.kit_list_tuple, DL.kit_list_list, DL.own_non, DL.own_bl, DL.own_int, DL.own_str, DL.own_tup, DL.own_lst, DL.own_bag, DL.own_scr, DL.own_ins, DL.own_exc, DL.o_eq, DL.o_ne, DL.cmp_int, DL.cmp_bl, DL.cmp_non, DL.eq_int, true_and, and_true, Bool.not_true, Bool.not_false, DL.xcOf, List.length_cons, List.length_nil, DL.startD, List.map_cons, List.map_nil, List.replicate_succ, List.replicate_zero, List.cons_append, List.nil_append, Nat.reduceSub, Nat.reduceAdd, Int.cast_ofNat_Int, Int.natCast_zero, Int.natCast_one, decide_true, decide_false, not_false_eq_true, Int.reduceEq, Int.reduceLT, Int.reduceLE, Int.reduceNeg, decide_eq_true_eq]
    by_cases h : 0 < b
    · rw [if_pos h]
      have e := emod_rng (i := a) (j := b) h
      exact ⟨h, _, by omega, b, a % b, rfl, by omega, by omega, rfl, by rw [gcdI_step ha h]; exact q⟩
    · rw [if_neg h]
      have : b = 0 := by omega
      subst this
      rw [gcdI_zero ha] at q
      exact q
theorem abs_nn {t : Int} : 0 ≤ if t < 0 then -t else t := by split <;> omega
theorem gcd_div {t b : Int} (h0 : 0 < b) (hb : bd b) : divOk t (gcdI t b) ∧ divOk b (gcdI t b) := by
  have h1 := gcdI_pos (a := t) h0
  have h2 := gcdI_le (a := t) h0
  have h3 : (gcdI t b).natAbs < 2 ^ 4000 := Nat.lt_of_le_of_lt (by omega) hb
  have h4 : (gcdI t b).natAbs.log2 < 9000 := by
    rw [Nat.log2_lt (by omega)]
    exact Nat.lt_of_lt_of_le h3 (Nat.pow_le_pow_right (by decide) (by decide))
  exact ⟨⟨h1, h4⟩, ⟨h1, h4⟩⟩
theorem rd_ratio {ds Q X} (h : sp_ratio ds Q X) : t_ratio sp_ratio0 X (endD Q) (startD 3 ds) := by
  match ds, h with
  | [.int t, .int b], ⟨hb, q0, q1, q2⟩ =>
    simp -dsimp only [t_ratio, ↓DL.e_while, ↓DL.e_seq, ↓DL.e_next, ↓DL.e_break, ↓DL.e_cont, ↓DL.e_drop, ↓DL.e_ret, ↓DL.e_retN, ↓DL.e_ifS, ↓DL.e_set, ↓DL.e_own, ↓DL.e_par, ↓DL.e_asg, ↓DL.e_kName, ↓DL.e_kNil, ↓DL.e_kCons, ↓DL.e_kTup, ↓DL.e_for, ↓DL.e_raise, ↓DL.e_try, ↓DL.e_var, ↓DL.e_c, ↓DL.e_op, ↓DL.e_un, ↓DL.e_if, ↓DL.e_andV, ↓DL.e_orV, ↓DL.e_notV, ↓DL.e_chain, ↓DL.e_B, ↓DL.e_and, ↓DL.e_or, ↓DL.e_not, ↓DL.e_yes, ↓DL.e_isi, ↓DL.e_CB, ↓DL.e_nil, ↓DL.e_cons, ↓DL.e_tup, ↓DL.e_fr, ↓DL.e_lst, ↓DL.e_listOf, ↓DL.e_call, ↓DL.e_seqIt, ↓DL.e_ran1, ↓DL.e_ran2, ↓DL.e_comp, ↓DL.e_lenOwn, ↓DL.e_ownM, ↓DL.e_strM, ↓DL.e_split, ↓DL.e_fmt, ↓DL.e_joined, ↓DL.e_js0, ↓DL.e_js, ↓DL.e_noPart, ↓DL.e_part, ↓DL.e_sl, ↓DL.e_xf, ↓DL.e_isE, DL.g_ifT, DL.g_ifF, DL.g_bl, DL.g_int, DL.g_str, DL.g_step, DL.g_some, DL.g_none, DL.g_slst, DL.g_stup, DL.g_sstr, DL.g_sscr, DL.gd_0, DL.gd_s, DL.sd_0, DL.sd_s, DL.g_par, DL.g_tupG, DL.g_vown, DL.g_vval, DL.g_listOft, DL.g_listOfl, DL.g_ran1, DL.g_ran2, DL.wipe_0, DL.wipe_s, DL.g_own, DL.g_append, DL.g_pop, DL.g_joinl, DL.g_joint, DL.g_fmts, DL.g_fmti, DL.g_slt, DL.g_sls, DL.o_int0, DL.o_int, DL.o_addi, DL.o_adds, DL.o_addt, DL.o_addl, DL.o_eqi, DL.o_nei, DL.o_isN, DL.o_notN, DL.o_bl2, DL.o_ixt, DL.o_ixl, DL.o_ixs, DL.o_inss, DL.o_int_, DL.o_inl, DL.l_lent, DL.l_lenl, DL.l_lens, DL.l_abs, DL.l_inti, DL.l_intb, DL.l_str, DL.l_tupt, DL.l_tupl, DL.l_all, DL.l_sum, DL.isB_non, DL.isB_bl, DL.isB_int, DL.isB_str, DL.isB_tup, DL.isB_lst, DL.isN_non, DL.isN_bl, DL.isN_int, DL.isN_str, DL.isN_tup, DL.isN_lst, DL.isN_ins, DL.g_exc, DL.g_gnx, DL.g_grt, DL.g_gbk, DL.g_gct, DL.d_eq1, DL.d_eq0, DL.d_lt1, DL.d_lt0, DL.d_le1, DL.d_le0, DL.at0, DL.at1, DL.at2, DL.at3, DL.at4, DL.at5, DL.kit_nn_int, DL.kit_nn_bool, DL.kit_nn_str, DL.kit_nn_tuple, DL.kit_nn_list, DL.kit_bool_int, DL.kit_bool_bool, DL.kit_bool_str, DL.kit_bool_tuple, DL.kit_bool_list, DL.kit_int_int, DL.kit_int_bool, DL.kit_int_str, DL.kit_int_tuple, DL.kit_int_list, DL.kit_str_int, DL.kit_str_bool, DL.kit_str_str, DL.kit_str_tuple, DL.kit_str_list, DL.kit_tuple_int, DL.kit_tuple_bool, DL.kit_tuple_str, DL.kit_tuple_tuple, DL.kit_tuple_list, DL.kit_list_int, DL.kit_list_bool, DL.kit_list_str, DL.kit_list_tuple, DL.kit_list_list, DL.own_non, DL.own_bl, DL.own_int, DL.own_str, DL.own_tup, DL.own_lst, DL.own_bag, DL.own_scr, DL.own_ins, DL.own_exc, DL.o_eq, DL.o_ne, DL.cmp_int, DL.cmp_bl, DL.cmp_non, DL.eq_int, true_and, and_true, Bool.not_true, Bool.not_false, DL.xcOf, List.length_cons, List.length_nil, DL.startD, List.map_cons, List.map_nil, List.replicate_succ, List.replicate_zero, List.cons_append, List.nil_append, Nat.reduceSub, Nat.reduceAdd, Int.cast_ofNat_Int, Int.natCast_zero, Int.natCast_one, decide_true, decide_false, not_false_eq_true, Int.reduceEq, Int.reduceLT, Int.reduceLE, Int.reduceNeg]
    refine if_dec (fun h0 => ?_) (fun h0 => ?_)
    · walk_at "run"
      exact q0 h0
    walk_at "run"
    refine if_dec (fun h1 => ?_) (fun h1 => ?_)
    · walk_at "run"
      exact ⟨by unfold bd at *; omega, by omega, q2 h1⟩
    walk_at "run"
    have h2 : 0 < b := by omega
    obtain ⟨d1, d2⟩ := gcd_div (t := t) h2 hb
    refine ⟨abs_nn, by omega, ?_⟩
    rw [gcdI_abs]
    walk_at "run"
    exact ⟨d1, d2, by decide, q1 h2⟩
theorem rd__law_ratio {ds Q X} (h : sp__law_ratio ds Q X) : t__law_ratio X (endD Q) (startD 3 ds) := by
  match ds, h with
  | [.int t, .int b], ⟨hb, h2, q1⟩ =>
    (unfold t__law_ratio; walk_at "run")
    obtain ⟨d1, d2⟩ := gcd_div (t := t) h2 hb
    refine ⟨abs_nn, by omega, ?_⟩
    rw [gcdI_abs]
    walk_at "run"
    exact ⟨d1, d2, by decide, q1⟩
theorem pair_ix {d : D} {p q : Int} (h : pairOf d = some (p, q)) : d = .tup [.int p, .int q] ∨ d = .lst [.int p, .int q] := by
  unfold pairOf at h
  split at h
  · cases h; exact .inl rfl
  · cases h; exact .inr rfl
  · cases h
theorem nat_log {n k : Nat} (h : n < 2 ^ k) : n.log2 ≤ k := by
  by_cases h0 : n = 0
  · subst h0; exact Nat.le_trans (show Nat.log2 0 ≤ 0 by decide) (Nat.zero_le _)
  · have := (Nat.log2_lt h0).mpr h
    omega
theorem mul_bd {i j : Int} {m n : Nat} (h1 : i.natAbs < 2 ^ m) (h2 : j.natAbs < 2 ^ n) (h : m + n < 90000000) : mulOk i j := by
  refine .inr (.inr ?_)
  have := nat_log h1
  have := nat_log h2
  omega
theorem nat_mul {i j : Int} {m n k : Nat} (h1 : i.natAbs < 2 ^ m) (h2 : j.natAbs < 2 ^ n) (h : m + n ≤ k) : (i * j).natAbs < 2 ^ k := by
  rw [Int.natAbs_mul]
  have h3 : i.natAbs * j.natAbs < 2 ^ m * 2 ^ n := Nat.mul_lt_mul_of_lt_of_lt h1 h2
  rw [← Nat.pow_add] at h3
  exact Nat.lt_of_lt_of_le h3 (Nat.pow_le_pow_right (by decide) h)
theorem rd_minus {ds Q X} (h : sp_minus ds Q X) : t_minus X (endD Q) (startD 2 ds) := by
  match ds, h with
  | [a, b], ⟨p, q, r, s, ⟨ea, q0, bp, bq⟩, ⟨eb, s0, br, bs⟩, k⟩ =>
    have m1 : mulOk p s := mul_bd bp bs (by decide)
    have m2 : mulOk r q := mul_bd br bq (by decide)
    have m3 : mulOk q s := mul_bd bq bs (by decide)
    have z : 0 < q * s := Int.mul_pos q0 s0
    have b3 : bd (q * s) := nat_mul bq bs (by decide)
    rcases pair_ix ea with rfl | rfl <;> rcases pair_ix eb with rfl | rfl <;>
    · (unfold t_minus; walk_at "run")
      exact ⟨m1, m2, m3, b3, fun z2 => by omega, fun _ => k, fun z2 => by omega⟩
theorem rd_times {ds Q X} (h : sp_times ds Q X) : t_times X (endD Q) (startD 2 ds) := by
  match ds, h with
  | [a, b], ⟨p, q, r, s, ⟨ea, q0, bp, bq⟩, ⟨eb, s0, br, bs⟩, k⟩ =>
    have m1 : mulOk p r := mul_bd bp br (by decide)
    have m3 : mulOk q s := mul_bd bq bs (by decide)
    have z : 0 < q * s := Int.mul_pos q0 s0
    have b3 : bd (q * s) := nat_mul bq bs (by decide)
    rcases pair_ix ea with rfl | rfl <;> rcases pair_ix eb with rfl | rfl <;>
    · (unfold t_times; walk_at "run")
      exact ⟨m1, m3, b3, fun z2 => by omega, fun _ => k, fun z2 => by omega⟩
theorem rd_less {ds Q X} (h : sp_less ds Q X) : t_less X (endD Q) (startD 2 ds) := by
  match ds, h with
  | [a, b], ⟨p, q, r, s, ⟨ea, q0, bp, bq⟩, ⟨eb, s0, br, bs⟩, k⟩ =>
    have m1 : mulOk p s := mul_bd bp bs (by decide)
    have m2 : mulOk r q := mul_bd br bq (by decide)
    rcases pair_ix ea with rfl | rfl <;> rcases pair_ix eb with rfl | rfl <;>
    · simp -dsimp only [t_less, ↓DL.e_while, ↓DL.e_seq, ↓DL.e_next, ↓DL.e_break, ↓DL.e_cont, ↓DL.e_drop, ↓DL.e_ret, ↓DL.e_retN, ↓DL.e_ifS, ↓DL.e_set, ↓DL.e_own, ↓DL.e_par, ↓DL.e_asg, ↓DL.e_kName, ↓DL.e_kNil, ↓DL.e_kCons, ↓DL.e_kTup, ↓DL.e_for, ↓DL.e_raise, ↓DL.e_try, ↓DL.e_var, ↓DL.e_c, ↓DL.e_op, ↓DL.e_un, ↓DL.e_if, ↓DL.e_andV, ↓DL.e_orV, ↓DL.e_notV, ↓DL.e_chain, ↓DL.e_B, ↓DL.e_and, ↓DL.e_or, ↓DL.e_not, ↓DL.e_yes, ↓DL.e_isi, ↓DL.e_CB, ↓DL.e_nil, ↓DL.e_cons, ↓DL.e_tup, ↓DL.e_fr, ↓DL.e_lst, ↓DL.e_listOf, ↓DL.e_call, ↓DL.e_seqIt, ↓DL.e_ran1, ↓DL.e_ran2, ↓DL.e_comp, ↓DL.e_lenOwn, ↓DL.e_ownM, ↓DL.e_strM, ↓DL.e_split, ↓DL.e_fmt, ↓DL.e_joined, ↓DL.e_js0, ↓DL.e_js, ↓DL.e_noPart, ↓DL.e_part, ↓DL.e_sl, ↓DL.e_xf, ↓DL.e_isE, DL.g_ifT, DL.g_ifF, DL.g_bl, DL.g_int, DL.g_str, DL.g_step, DL.g_some, DL.g_none, DL.g_slst, DL.g_stup, DL.g_sstr, DL.g_sscr, DL.gd_0, DL.gd_s, DL.sd_0, DL.sd_s, DL.g_par, DL.g_tupG, DL.g_vown, DL.g_vval, DL.g_listOft, DL.g_listOfl, DL.g_ran1, DL.g_ran2, DL.wipe_0, DL.wipe_s, DL.g_own, DL.g_append, DL.g_pop, DL.g_joinl, DL.g_joint, DL.g_fmts, DL.g_fmti, DL.g_slt, DL.g_sls, DL.o_int0, DL.o_int, DL.o_addi, DL.o_adds, DL.o_addt, DL.o_addl, DL.o_eqi, DL.o_nei, DL.o_isN, DL.o_notN, DL.o_bl2, DL.o_ixt, DL.o_ixl, DL.o_ixs, DL.o_inss, DL.o_int_, DL.o_inl, DL.l_lent, DL.l_lenl, DL.l_lens, DL.l_abs, DL.l_inti, DL.l_intb, DL.l_str, DL.l_tupt, DL.l_tupl, DL.l_all, DL.l_sum, DL.isB_non, DL.isB_bl, DL.isB_int, DL.isB_str, DL.isB_tup, DL.isB_lst, DL.isN_non, DL.isN_bl, DL.isN_int, DL.isN_str, DL.isN_tup, DL.isN_lst, DL.isN_ins, DL.g_exc, DL.g_gnx, DL.g_grt, DL.g_gbk, DL.g_gct, DL.d_eq1, DL.d_eq0, DL.d_lt1, DL.d_lt0, DL.d_le1, DL.d_le0, DL.at0, DL.at1, DL.at2, DL.at3, DL.at4, DL.at5, DL.kit_nn_int, DL.kit_nn_bool, DL.kit_nn_str, DL.kit_nn_tuple, DL.kit_nn_list, DL.kit_bool_int, DL.kit_bool_bool, DL.kit_bool_str, DL.kit_bool_tuple, DL.kit_bool_list, DL.kit_int_int, DL.kit_int_bool, DL.kit_int_str, DL.kit_int_tuple, DL.kit_int_list, DL.kit_str_int, DL.kit_str_bool, DL.kit_str_str, DL.kit_str_tuple, DL.kit_str_list, DL.kit_tuple_int, DL.kit_tuple_bool, DL.kit_tuple_str, DL.kit_tuple_tuple, DL.kit_tuple_list, DL.kit_list_int, DL.kit_list_bool, DL.kit_list_str, DL.kit_list_tuple, DL.kit_list_list, DL.own_non, DL.own_bl, DL.own_int, DL.own_str, DL.own_tup, DL.own_lst, DL.own_bag, DL.own_scr, DL.own_ins, DL.own_exc, DL.o_eq, DL.o_ne, DL.cmp_int, DL.cmp_bl, DL.cmp_non, DL.eq_int, true_and, and_true, Bool.not_true, Bool.not_false, DL.xcOf, List.length_cons, List.length_nil, DL.startD, List.map_cons, List.map_nil, List.replicate_succ, List.replicate_zero, List.cons_append, List.nil_append, Nat.reduceSub, Nat.reduceAdd, Int.cast_ofNat_Int, Int.natCast_zero, Int.natCast_one, decide_true, decide_false, not_false_eq_true, Int.reduceEq, Int.reduceLT, Int.reduceLE, Int.reduceNeg, ix0, ix1]
      exact ⟨m1, m2, k⟩
theorem rd__law_plus {ds Q X} (h : sp__law_plus ds Q X) : t__law_plus X (endD Q) (startD 2 ds) := by
  match ds, h with
  | [a, b], ⟨p, q, r, s, ⟨ea, q0, bp, bq⟩, ⟨eb, s0, br, bs⟩, k⟩ =>
    have m1 : mulOk p s := mul_bd bp bs (by decide)
    have m2 : mulOk r q := mul_bd br bq (by decide)
    have m3 : mulOk q s := mul_bd bq bs (by decide)
    have z : 0 < q * s := Int.mul_pos q0 s0
    have b3 : bd (q * s) := nat_mul bq bs (by decide)
    rcases pair_ix ea with rfl | rfl <;> rcases pair_ix eb with rfl | rfl <;>
    · simp -dsimp only [t__law_plus, ↓DL.e_while, ↓DL.e_seq, ↓DL.e_next, ↓DL.e_break, ↓DL.e_cont, ↓DL.e_drop, ↓DL.e_ret, ↓DL.e_retN, ↓DL.e_ifS, ↓DL.e_set, ↓DL.e_own, ↓DL.e_par, ↓DL.e_asg, ↓DL.e_kName, ↓DL.e_kNil, ↓DL.e_kCons, ↓DL.e_kTup, ↓DL.e_for, ↓DL.e_raise, ↓DL.e_try, ↓DL.e_var, ↓DL.e_c, ↓DL.e_op, ↓DL.e_un, ↓DL.e_if, ↓DL.e_andV, ↓DL.e_orV, ↓DL.e_notV, ↓DL.e_chain, ↓DL.e_B, ↓DL.e_and, ↓DL.e_or, ↓DL.e_not, ↓DL.e_yes, ↓DL.e_isi, ↓DL.e_CB, ↓DL.e_nil, ↓DL.e_cons, ↓DL.e_tup, ↓DL.e_fr, ↓DL.e_lst, ↓DL.e_listOf, ↓DL.e_call, ↓DL.e_seqIt, ↓DL.e_ran1, ↓DL.e_ran2, ↓DL.e_comp, ↓DL.e_lenOwn, ↓DL.e_ownM, ↓DL.e_strM, ↓DL.e_split, ↓DL.e_fmt, ↓DL.e_joined, ↓DL.e_js0, ↓DL.e_js, ↓DL.e_noPart, ↓DL.e_part, ↓DL.e_sl, ↓DL.e_xf, ↓DL.e_isE, DL.g_ifT, DL.g_ifF, DL.g_bl, DL.g_int, DL.g_str, DL.g_step, DL.g_some, DL.g_none, DL.g_slst, DL.g_stup, DL.g_sstr, DL.g_sscr, DL.gd_0, DL.gd_s, DL.sd_0, DL.sd_s, DL.g_par, DL.g_tupG, DL.g_vown, DL.g_vval, DL.g_listOft, DL.g_listOfl, DL.g_ran1, DL.g_ran2, DL.wipe_0, DL.wipe_s, DL.g_own, DL.g_append, DL.g_pop, DL.g_joinl, DL.g_joint, DL.g_fmts, DL.g_fmti, DL.g_slt, DL.g_sls, DL.o_int0, DL.o_int, DL.o_addi, DL.o_adds, DL.o_addt, DL.o_addl, DL.o_eqi, DL.o_nei, DL.o_isN, DL.o_notN, DL.o_bl2, DL.o_ixt, DL.o_ixl, DL.o_ixs, DL.o_inss, DL.o_int_, DL.o_inl, DL.l_lent, DL.l_lenl, DL.l_lens, DL.l_abs, DL.l_inti, DL.l_intb, DL.l_str, DL.l_tupt, DL.l_tupl, DL.l_all, DL.l_sum, DL.isB_non, DL.isB_bl, DL.isB_int, DL.isB_str, DL.isB_tup, DL.isB_lst, DL.isN_non, DL.isN_bl, DL.isN_int, DL.isN_str, DL.isN_tup, DL.isN_lst, DL.isN_ins, DL.g_exc, DL.g_gnx, DL.g_grt, DL.g_gbk, DL.g_gct, DL.d_eq1, DL.d_eq0, DL.d_lt1, DL.d_lt0, DL.d_le1, DL.d_le0, DL.at0, DL.at1, DL.at2, DL.at3, DL.at4, DL.at5, DL.kit_nn_int, DL.kit_nn_bool, DL.kit_nn_str, DL.kit_nn_tuple, DL.kit_nn_list, DL.kit_bool_int, DL.kit_bool_bool, DL.kit_bool_str, DL.kit_bool_tuple, DL.kit_bool_list, DL.kit_int_int, DL.kit_int_bool, DL.kit_int_str, DL.kit_int_tuple, DL.kit_int_list, DL.kit_str_int, DL.kit_str_bool, DL.kit_str_str, DL.kit_str_tuple, DL.kit_str_list, DL.kit_tuple_int, DL.kit_tuple_bool, DL.kit_tuple_str, DL.kit_tuple_tuple, DL.kit_tuple_list, DL.kit_list_int, DL.kit_list_bool, DL.kit_list_str, DL.kit_list_tuple, DL.kit_list_list, DL.own_non, DL.own_bl, DL.own_int, DL.own_str, DL.own_tup, DL.own_lst, DL.own_bag, DL.own_scr, DL.own_ins, DL.own_exc, DL.o_eq, DL.o_ne, DL.cmp_int, DL.cmp_bl, DL.cmp_non, DL.eq_int, true_and, and_true, Bool.not_true, Bool.not_false, DL.xcOf, List.length_cons, List.length_nil, DL.startD, List.map_cons, List.map_nil, List.replicate_succ, List.replicate_zero, List.cons_append, List.nil_append, Nat.reduceSub, Nat.reduceAdd, Int.cast_ofNat_Int, Int.natCast_zero, Int.natCast_one, decide_true, decide_false, not_false_eq_true, Int.reduceEq, Int.reduceLT, Int.reduceLE, Int.reduceNeg, ix0, ix1]
      exact ⟨m1, m2, m3, b3, z, k⟩
theorem log_of {p : Int} (h : p.natAbs < 2 ^ 1900) : p.natAbs.log2 < 1920 := by
  have := nat_log h
  omega
theorem text_len {p : Int} (h : p.natAbs < 2 ^ 1900) : (Str.ofString (toString p)).length ≤ 1921 := PyProof.Rows.int_text_len_1921 (log_of h)
theorem slash_len : (Str.ofString "/").length = 1 := by decide
theorem small_line {n : Nat} (h : n ≤ 10000) : n ≤ sizeLine := Nat.le_trans h (by decide)
theorem rd_write_ratio {ds Q X} (h : sp_write_ratio ds Q X) : t_write_ratio X (endD Q) (startD 1 ds) := by
  match ds, h with
  | [a], ⟨p, q, ⟨ea, q0, bp, bq⟩, k⟩ =>
    unfold textR at k
    have l1 := text_len bp
    have l2 := text_len bq
    have l3 := slash_len
    rcases pair_ix ea with rfl | rfl <;>
    · (unfold t_write_ratio; walk_at "run")
      refine if_dec (fun h1 => ?_) (fun h1 => ?_)
      · walk_at "run"
        rw [if_pos h1] at k
        exact ⟨log_of bp, k⟩
      · simp -dsimp only [Str.empty_append, ↓DL.e_while, ↓DL.e_seq, ↓DL.e_next, ↓DL.e_break, ↓DL.e_cont, ↓DL.e_drop, ↓DL.e_ret, ↓DL.e_retN, ↓DL.e_ifS, ↓DL.e_set, ↓DL.e_own, ↓DL.e_par, ↓DL.e_asg, ↓DL.e_kName, ↓DL.e_kNil, ↓DL.e_kCons, ↓DL.e_kTup, ↓DL.e_for, ↓DL.e_raise, ↓DL.e_try, ↓DL.e_var, ↓DL.e_c, ↓DL.e_op, ↓DL.e_un, ↓DL.e_if, ↓DL.e_andV, ↓DL.e_orV, ↓DL.e_notV, ↓DL.e_chain, ↓DL.e_B, ↓DL.e_and, ↓DL.e_or, ↓DL.e_not, ↓DL.e_yes, ↓DL.e_isi, ↓DL.e_CB, ↓DL.e_nil, ↓DL.e_cons, ↓DL.e_tup, ↓DL.e_fr, ↓DL.e_lst, ↓DL.e_listOf, ↓DL.e_call, ↓DL.e_seqIt, ↓DL.e_ran1, ↓DL.e_ran2, ↓DL.e_comp, ↓DL.e_lenOwn, ↓DL.e_ownM, ↓DL.e_strM, ↓DL.e_split, ↓DL.e_fmt, ↓DL.e_joined, ↓DL.e_js0, ↓DL.e_js, ↓DL.e_noPart, ↓DL.e_part, ↓DL.e_sl, ↓DL.e_xf, ↓DL.e_isE, DL.g_ifT, DL.g_ifF, DL.g_bl, DL.g_int, DL.g_str, DL.g_step, DL.g_some, DL.g_none, DL.g_slst, DL.g_stup, DL.g_sstr, DL.g_sscr, DL.gd_0, DL.gd_s, DL.sd_0, DL.sd_s, DL.g_par, DL.g_tupG, DL.g_vown, DL.g_vval, DL.g_listOft, DL.g_listOfl, DL.g_ran1, DL.g_ran2, DL.wipe_0, DL.wipe_s, DL.g_own, DL.g_append, DL.g_pop, DL.g_joinl, DL.g_joint, DL.g_fmts, DL.g_fmti, DL.g_slt, DL.g_sls, DL.o_int0, DL.o_int, DL.o_addi, DL.o_adds, DL.o_addt, DL.o_addl, DL.o_eqi, DL.o_nei, DL.o_isN, DL.o_notN, DL.o_bl2, DL.o_ixt, DL.o_ixl, DL.o_ixs, DL.o_inss, DL.o_int_, DL.o_inl, DL.l_lent, DL.l_lenl, DL.l_lens, DL.l_abs, DL.l_inti, DL.l_intb, DL.l_str, DL.l_tupt, DL.l_tupl, DL.l_all, DL.l_sum, DL.isB_non, DL.isB_bl, DL.isB_int, DL.isB_str, DL.isB_tup, DL.isB_lst, DL.isN_non, DL.isN_bl, DL.isN_int, DL.isN_str, DL.isN_tup, DL.isN_lst, DL.isN_ins, DL.g_exc, DL.g_gnx, DL.g_grt, DL.g_gbk, DL.g_gct, DL.d_eq1, DL.d_eq0, DL.d_lt1, DL.d_lt0, DL.d_le1, DL.d_le0, DL.at0, DL.at1, DL.at2, DL.at3, DL.at4, DL.at5, DL.kit_nn_int, DL.kit_nn_bool, DL.kit_nn_str, DL.kit_nn_tuple, DL.kit_nn_list, DL.kit_bool_int, DL.kit_bool_bool, DL.kit_bool_str, DL.kit_bool_tuple, DL.kit_bool_list, DL.kit_int_int, DL.kit_int_bool, DL.kit_int_str, DL.kit_int_tuple, DL.kit_int_list, DL.kit_str_int, DL.kit_str_bool, DL.kit_str_str, DL.kit_str_tuple, DL.kit_str_list, DL.kit_tuple_int, DL.kit_tuple_bool, DL.kit_tuple_str, DL.kit_tuple_tuple, DL.kit_tuple_list, DL.kit_list_int, DL.kit_list_bool, DL.kit_list_str, DL.kit_list_tuple, DL.kit_list_list, DL.own_non, DL.own_bl, DL.own_int, DL.own_str, DL.own_tup, DL.own_lst, DL.own_bag, DL.own_scr, DL.own_ins, DL.own_exc, DL.o_eq, DL.o_ne, DL.cmp_int, DL.cmp_bl, DL.cmp_non, DL.eq_int, true_and, and_true, Bool.not_true, Bool.not_false, DL.xcOf, List.length_cons, List.length_nil, DL.startD, List.map_cons, List.map_nil, List.replicate_succ, List.replicate_zero, List.cons_append, List.nil_append, Nat.reduceSub, Nat.reduceAdd, Int.cast_ofNat_Int, Int.natCast_zero, Int.natCast_one, decide_true, decide_false, not_false_eq_true, Int.reduceEq, Int.reduceLT, Int.reduceLE, Int.reduceNeg]
        rw [if_neg h1] at k
        refine ⟨log_of bp, small_line (by omega), ?_, log_of bq, ?_, k⟩ <;> (simp only [Str.length_append]; exact small_line (by omega))
theorem rd__law_text {ds Q X} (h : sp__law_text ds Q X) : t__law_text X (endD Q) (startD 1 ds) := by
  match ds, h with
  | [a], ⟨p, q, ⟨ea, q0, bp, bq⟩, k⟩ =>
    unfold textR at k
    have l1 := text_len bp
    have l2 := text_len bq
    have l3 := slash_len
    rcases pair_ix ea with rfl | rfl <;>
    · (unfold t__law_text; walk_at "run")
      refine if_dec (fun h1 => ?_) (fun h1 => ?_)
      · walk_at "run"
        rw [if_pos h1] at k
        exact ⟨log_of bp, k⟩
      · walk_at "run"
        rw [if_neg h1] at k
        refine ⟨log_of bp, small_line (by omega), log_of bq, ?_, k⟩
        simp only [Str.length_append]
        exact small_line (by omega)
/-! ### plain data -/
theorem all_ok {n : Nat} (ih : ∀ d, okN n d = true → okD d = true ∧ depD d ≤ n) : ∀ xs : List D, xs.all (okN n) = true → okAll xs = true ∧ depAll xs ≤ n
  | [], _ => ⟨rfl, Nat.zero_le _⟩
  | x :: xs, h => by
    rw [List.all_cons, Bool.and_eq_true] at h
    obtain ⟨a1, a2⟩ := ih x h.1
    obtain ⟨b1, b2⟩ := all_ok ih xs h.2
    exact ⟨by rw [okAll, a1, b1]; rfl, by rw [depAll]; omega⟩
theorem okN_ok : ∀ (n : Nat) (d : D), okN n d = true → okD d = true ∧ depD d ≤ n := by
  intro n
  induction n with
  | zero => intro d h; cases d <;> simp -dsimp only [okN, Bool.false_eq_true, Bool.and_eq_true] at h <;> first | exact ⟨rfl, Nat.le_refl _⟩ | exact ⟨h.1, Nat.le_refl _⟩
  | succ n ih =>
    intro d h
    cases d <;> simp -dsimp only [okN, Bool.false_eq_true, Bool.and_eq_true] at h <;> first | exact ⟨rfl, Nat.zero_le _⟩ | exact ⟨h.1, Nat.zero_le _⟩ | skip
    all_goals
      obtain ⟨a1, a2⟩ := all_ok ih _ h.2
      exact ⟨by rw [okD]; exact a1, by rw [depD]; omega⟩
theorem okN_cmp {n : Nat} {d : D} (h : okN n d = true) (hn : n ≤ 60) : cmpOk d := by
  obtain ⟨h1, h2⟩ := okN_ok n d h
  exact ⟨h1, by omega⟩
theorem okN_mono : ∀ {n m : Nat} {d : D}, okN n d = true → n ≤ m → okN m d = true := by
  intro n
  induction n with
  | zero => intro m d h _; cases m <;> cases d <;> simp -dsimp only [okN, Bool.false_eq_true] at h ⊢ <;> exact h
  | succ n ih =>
    intro m d h hm
    cases m with
    | zero => omega
    | succ m =>
      cases d <;> simp -dsimp only [okN, Bool.false_eq_true, Bool.and_eq_true] at h ⊢ <;> first | exact h | skip
      all_goals exact ⟨h.1, List.all_eq_true.mpr fun x hx => ih (List.all_eq_true.mp h.2 x hx) (by omega)⟩
theorem okN_own {n : Nat} {d : D} (h : okN n d = true) : isOwn d = false := by
  cases d <;> first | rfl | (cases n <;> simp [okN] at h)
theorem tupDs_map : ∀ xs : List D, tupDs xs = xs.map tupD
  | [] => rfl
  | x :: xs => by rw [tupDs, tupDs_map xs]; rfl
theorem lstDs_map : ∀ xs : List D, lstDs xs = xs.map lstD
  | [] => rfl
  | x :: xs => by rw [lstDs, lstDs_map xs]; rfl
theorem size_of {xs : List D} (h : xs.length ≤ 1000) : xs.length ≤ sizeLine := Nat.le_trans h (by decide)
theorem rd_deep {n ds Q X} (h : sp_deep (n + 1) ds Q X) : t_deep (sp_deep n) X (endD Q) (startD 2 ds) := by
  match ds, h with
  | [d], ⟨h, q⟩ =>
    cases d <;> simp only [okN, Bool.false_eq_true, Bool.and_eq_true, decide_eq_true_eq] at h <;> simp -dsimp only [t_deep, isB2, Bool.or_false, Bool.or_true, Bool.true_or, ↓DL.e_while, ↓DL.e_seq, ↓DL.e_next, ↓DL.e_break, ↓DL.e_cont, ↓DL.e_drop, ↓DL.e_ret, ↓DL.e_retN, ↓DL.e_ifS, ↓DL.e_set, ↓DL.e_own, ↓DL.e_par, ↓DL.e_asg, ↓DL.e_kName, ↓DL.e_kNil, ↓DL.e_kCons, ↓DL.e_kTup, ↓DL.e_for, ↓DL.e_raise, ↓DL.e_try, ↓DL.e_var, ↓DL.e_c, ↓DL.e_op, ↓DL.e_un, ↓DL.e_if, ↓DL.e_andV, ↓DL.e_orV, ↓DL.e_notV, ↓DL.e_chain, ↓DL.e_B, ↓DL.e_and, ↓DL.e_or, ↓DL.e_not, ↓DL.e_yes, ↓DL.e_isi, ↓DL.e_CB, ↓DL.e_nil, ↓DL.e_cons, ↓DL.e_tup, ↓DL.e_fr, ↓DL.e_lst, ↓DL.e_listOf, ↓DL.e_call, ↓DL.e_seqIt, ↓DL.e_ran1, ↓DL.e_ran2, ↓DL.e_comp, ↓DL.e_lenOwn, ↓DL.e_ownM, ↓DL.e_strM, ↓DL.e_split, ↓DL.e_fmt, ↓DL.e_joined, ↓DL.e_js0, ↓DL.e_js, ↓DL.e_noPart, ↓DL.e_part, ↓DL.e_sl, ↓DL.e_xf, ↓DL.e_isE, DL.g_ifT, DL.g_ifF, DL.g_bl, DL.g_int, DL.g_str, DL.g_step, DL.g_some, DL.g_none, DL.g_slst, DL.g_stup, DL.g_sstr, DL.g_sscr, DL.gd_0, DL.gd_s, DL.sd_0, DL.sd_s, DL.g_par, DL.g_tupG, DL.g_vown, DL.g_vval, DL.g_listOft, DL.g_listOfl, DL.g_ran1, DL.g_ran2, DL.wipe_0, DL.wipe_s, DL.g_own, DL.g_append, DL.g_pop, DL.g_joinl, DL.g_joint, DL.g_fmts, DL.g_fmti, DL.g_slt, DL.g_sls, DL.o_int0, DL.o_int, DL.o_addi, DL.o_adds, DL.o_addt, DL.o_addl, DL.o_eqi, DL.o_nei, DL.o_isN, DL.o_notN, DL.o_bl2, DL.o_ixt, DL.o_ixl, DL.o_ixs, DL.o_inss, DL.o_int_, DL.o_inl, DL.l_lent, DL.l_lenl, DL.l_lens, DL.l_abs, DL.l_inti, DL.l_intb, DL.l_str, DL.l_tupt, DL.l_tupl, DL.l_all, DL.l_sum, DL.isB_non, DL.isB_bl, DL.isB_int, DL.isB_str, DL.isB_tup, DL.isB_lst, DL.isN_non, DL.isN_bl, DL.isN_int, DL.isN_str, DL.isN_tup, DL.isN_lst, DL.isN_ins, DL.g_exc, DL.g_gnx, DL.g_grt, DL.g_gbk, DL.g_gct, DL.d_eq1, DL.d_eq0, DL.d_lt1, DL.d_lt0, DL.d_le1, DL.d_le0, DL.at0, DL.at1, DL.at2, DL.at3, DL.at4, DL.at5, DL.kit_nn_int, DL.kit_nn_bool, DL.kit_nn_str, DL.kit_nn_tuple, DL.kit_nn_list, DL.kit_bool_int, DL.kit_bool_bool, DL.kit_bool_str, DL.kit_bool_tuple, DL.kit_bool_list, DL.kit_int_int, DL.kit_int_bool, DL.kit_int_str, DL.kit_int_tuple, DL.kit_int_list, DL.kit_str_int, DL.kit_str_bool, DL.kit_str_str, DL.kit_str_tuple, DL.kit_str_list, DL.kit_tuple_int, DL.kit_tuple_bool, DL.kit_tuple_str, DL.kit_tuple_tuple, DL.kit_tuple_list, DL.kit_list_int, DL.kit_list_bool, DL.kit_list_str, DL.kit_list_tuple, DL.kit_list_list, DL.own_non, DL.own_bl, DL.own_int, DL.own_str, DL.own_tup, DL.own_lst, DL.own_bag, DL.own_scr, DL.own_ins, DL.own_exc, DL.o_eq, DL.o_ne, DL.cmp_int, DL.cmp_bl, DL.cmp_non, DL.eq_int, true_and, and_true, Bool.not_true, Bool.not_false, DL.xcOf, List.length_cons, List.length_nil, DL.startD, List.map_cons, List.map_nil, List.replicate_succ, List.replicate_zero, List.cons_append, List.nil_append, Nat.reduceSub, Nat.reduceAdd, Int.cast_ofNat_Int, Int.natCast_zero, Int.natCast_one, decide_true, decide_false, not_false_eq_true, Int.reduceEq, Int.reduceLT, Int.reduceLE, Int.reduceNeg] <;> (first | exact q | skip)
    all_goals
      rw [tupD, tupDs_map] at q
      exact ⟨size_of h.1, compD_fun tupD rfl (fun x hx Q q => by
        have h1 := List.all_eq_true.mp h.2 x hx
        simp -dsimp only [okN_own h1, ↓DL.e_while, ↓DL.e_seq, ↓DL.e_next, ↓DL.e_break, ↓DL.e_cont, ↓DL.e_drop, ↓DL.e_ret, ↓DL.e_retN, ↓DL.e_ifS, ↓DL.e_set, ↓DL.e_own, ↓DL.e_par, ↓DL.e_asg, ↓DL.e_kName, ↓DL.e_kNil, ↓DL.e_kCons, ↓DL.e_kTup, ↓DL.e_for, ↓DL.e_raise, ↓DL.e_try, ↓DL.e_var, ↓DL.e_c, ↓DL.e_op, ↓DL.e_un, ↓DL.e_if, ↓DL.e_andV, ↓DL.e_orV, ↓DL.e_notV, ↓DL.e_chain, ↓DL.e_B, ↓DL.e_and, ↓DL.e_or, ↓DL.e_not, ↓DL.e_yes, ↓DL.e_isi, ↓DL.e_CB, ↓DL.e_nil, ↓DL.e_cons, ↓DL.e_tup, ↓DL.e_fr, ↓DL.e_lst, ↓DL.e_listOf, ↓DL.e_call, ↓DL.e_seqIt, ↓DL.e_ran1, ↓DL.e_ran2, ↓DL.e_comp, ↓DL.e_lenOwn, ↓DL.e_ownM, ↓DL.e_strM, ↓DL.e_split, ↓DL.e_fmt, ↓DL.e_joined, ↓DL.e_js0, ↓DL.e_js, ↓DL.e_noPart, ↓DL.e_part, ↓DL.e_sl, ↓DL.e_xf, ↓DL.e_isE, DL.g_ifT, DL.g_ifF, DL.g_bl, DL.g_int, DL.g_str, DL.g_step, DL.g_some, DL.g_none, DL.g_slst, DL.g_stup, DL.g_sstr, DL.g_sscr, DL.gd_0, DL.gd_s, DL.sd_0, DL.sd_s, DL.g_par, DL.g_tupG, DL.g_vown, DL.g_vval, DL.g_listOft, DL.g_listOfl, DL.g_ran1, DL.g_ran2, DL.wipe_0, DL.wipe_s, DL.g_own, DL.g_append, DL.g_pop, DL.g_joinl, DL.g_joint, DL.g_fmts, DL.g_fmti, DL.g_slt, DL.g_sls, DL.o_int0, DL.o_int, DL.o_addi, DL.o_adds, DL.o_addt, DL.o_addl, DL.o_eqi, DL.o_nei, DL.o_isN, DL.o_notN, DL.o_bl2, DL.o_ixt, DL.o_ixl, DL.o_ixs, DL.o_inss, DL.o_int_, DL.o_inl, DL.l_lent, DL.l_lenl, DL.l_lens, DL.l_abs, DL.l_inti, DL.l_intb, DL.l_str, DL.l_tupt, DL.l_tupl, DL.l_all, DL.l_sum, DL.isB_non, DL.isB_bl, DL.isB_int, DL.isB_str, DL.isB_tup, DL.isB_lst, DL.isN_non, DL.isN_bl, DL.isN_int, DL.isN_str, DL.isN_tup, DL.isN_lst, DL.isN_ins, DL.g_exc, DL.g_gnx, DL.g_grt, DL.g_gbk, DL.g_gct, DL.d_eq1, DL.d_eq0, DL.d_lt1, DL.d_lt0, DL.d_le1, DL.d_le0, DL.at0, DL.at1, DL.at2, DL.at3, DL.at4, DL.at5, DL.kit_nn_int, DL.kit_nn_bool, DL.kit_nn_str, DL.kit_nn_tuple, DL.kit_nn_list, DL.kit_bool_int, DL.kit_bool_bool, DL.kit_bool_str, DL.kit_bool_tuple, DL.kit_bool_list, DL.kit_int_int, DL.kit_int_bool, DL.kit_int_str, DL.kit_int_tuple, DL.kit_int_list, DL.kit_str_int, DL.kit_str_bool, DL.kit_str_str, DL.kit_str_tuple, DL.kit_str_list, DL.kit_tuple_int, DL.kit_tuple_bool, DL.kit_tuple_str, DL.kit_tuple_tuple, DL.kit_tuple_list, DL.kit_list_int, DL.kit_list_bool, DL.kit_list_str, DL.kit_list_tuple, DL.kit_list_list, DL.own_non, DL.own_bl, DL.own_int, DL.own_str, DL.own_tup, DL.own_lst, DL.own_bag, DL.own_scr, DL.own_ins, DL.own_exc, DL.o_eq, DL.o_ne, DL.cmp_int, DL.cmp_bl, DL.cmp_non, DL.eq_int, true_and, and_true, Bool.not_true, Bool.not_false, DL.xcOf, List.length_cons, List.length_nil, DL.startD, List.map_cons, List.map_nil, List.replicate_succ, List.replicate_zero, List.cons_append, List.nil_append, Nat.reduceSub, Nat.reduceAdd, Int.cast_ofNat_Int, Int.natCast_zero, Int.natCast_one, decide_true, decide_false, not_false_eq_true, Int.reduceEq, Int.reduceLT, Int.reduceLE, Int.reduceNeg]
        exact ⟨h1, q _ rfl⟩) q⟩
theorem rd__law_tuples {n ds Q X} (h : sp__law_tuples (n + 1) ds Q X) : t__law_tuples (sp__law_tuples n) X (endD Q) (startD 2 ds) := by
  match ds, h with
  | [d], ⟨h, q⟩ =>
    cases d <;> simp only [okN, Bool.false_eq_true, Bool.and_eq_true, decide_eq_true_eq] at h <;> (unfold t__law_tuples; walk_at "run") <;> (first | exact q | skip)
    all_goals
      rw [tupD, tupDs_map] at q
      exact ⟨size_of h.1, compD_fun tupD rfl (fun x hx Q q => by
        have h1 := List.all_eq_true.mp h.2 x hx
        simp -dsimp only [okN_own h1, ↓DL.e_while, ↓DL.e_seq, ↓DL.e_next, ↓DL.e_break, ↓DL.e_cont, ↓DL.e_drop, ↓DL.e_ret, ↓DL.e_retN, ↓DL.e_ifS, ↓DL.e_set, ↓DL.e_own, ↓DL.e_par, ↓DL.e_asg, ↓DL.e_kName, ↓DL.e_kNil, ↓DL.e_kCons, ↓DL.e_kTup, ↓DL.e_for, ↓DL.e_raise, ↓DL.e_try, ↓DL.e_var, ↓DL.e_c, ↓DL.e_op, ↓DL.e_un, ↓DL.e_if, ↓DL.e_andV, ↓DL.e_orV, ↓DL.e_notV, ↓DL.e_chain, ↓DL.e_B, ↓DL.e_and, ↓DL.e_or, ↓DL.e_not, ↓DL.e_yes, ↓DL.e_isi, ↓DL.e_CB, ↓DL.e_nil, ↓DL.e_cons, ↓DL.e_tup, ↓DL.e_fr, ↓DL.e_lst, ↓DL.e_listOf, ↓DL.e_call, ↓DL.e_seqIt, ↓DL.e_ran1, ↓DL.e_ran2, ↓DL.e_comp, ↓DL.e_lenOwn, ↓DL.e_ownM, ↓DL.e_strM, ↓DL.e_split, ↓DL.e_fmt, ↓DL.e_joined, ↓DL.e_js0, ↓DL.e_js, ↓DL.e_noPart, ↓DL.e_part, ↓DL.e_sl, ↓DL.e_xf, ↓DL.e_isE, DL.g_ifT, DL.g_ifF, DL.g_bl, DL.g_int, DL.g_str, DL.g_step, DL.g_some, DL.g_none, DL.g_slst, DL.g_stup, DL.g_sstr, DL.g_sscr, DL.gd_0, DL.gd_s, DL.sd_0, DL.sd_s, DL.g_par, DL.g_tupG, DL.g_vown, DL.g_vval, DL.g_listOft, DL.g_listOfl, DL.g_ran1, DL.g_ran2, DL.wipe_0, DL.wipe_s, DL.g_own, DL.g_append, DL.g_pop, DL.g_joinl, DL.g_joint, DL.g_fmts, DL.g_fmti, DL.g_slt, DL.g_sls, DL.o_int0, DL.o_int, DL.o_addi, DL.o_adds, DL.o_addt, DL.o_addl, DL.o_eqi, DL.o_nei, DL.o_isN, DL.o_notN, DL.o_bl2, DL.o_ixt, DL.o_ixl, DL.o_ixs, DL.o_inss, DL.o_int_, DL.o_inl, DL.l_lent, DL.l_lenl, DL.l_lens, DL.l_abs, DL.l_inti, DL.l_intb, DL.l_str, DL.l_tupt, DL.l_tupl, DL.l_all, DL.l_sum, DL.isB_non, DL.isB_bl, DL.isB_int, DL.isB_str, DL.isB_tup, DL.isB_lst, DL.isN_non, DL.isN_bl, DL.isN_int, DL.isN_str, DL.isN_tup, DL.isN_lst, DL.isN_ins, DL.g_exc, DL.g_gnx, DL.g_grt, DL.g_gbk, DL.g_gct, DL.d_eq1, DL.d_eq0, DL.d_lt1, DL.d_lt0, DL.d_le1, DL.d_le0, DL.at0, DL.at1, DL.at2, DL.at3, DL.at4, DL.at5, DL.kit_nn_int, DL.kit_nn_bool, DL.kit_nn_str, DL.kit_nn_tuple, DL.kit_nn_list, DL.kit_bool_int, DL.kit_bool_bool, DL.kit_bool_str, DL.kit_bool_tuple, DL.kit_bool_list, DL.kit_int_int, DL.kit_int_bool, DL.kit_int_str, DL.kit_int_tuple, DL.kit_int_list, DL.kit_str_int, DL.kit_str_bool, DL.kit_str_str, DL.kit_str_tuple, DL.kit_str_list, DL.kit_tuple_int, DL.kit_tuple_bool, DL.kit_tuple_str, DL.kit_tuple_tuple, DL.kit_tuple_list, DL.kit_list_int, DL.kit_list_bool, DL.kit_list_str, DL.kit_list_tuple, DL.kit_list_list, DL.own_non, DL.own_bl, DL.own_int, DL.own_str, DL.own_tup, DL.own_lst, DL.own_bag, DL.own_scr, DL.own_ins, DL.own_exc, DL.o_eq, DL.o_ne, DL.cmp_int, DL.cmp_bl, DL.cmp_non, DL.eq_int, true_and, and_true, Bool.not_true, Bool.not_false, DL.xcOf, List.length_cons, List.length_nil, DL.startD, List.map_cons, List.map_nil, List.replicate_succ, List.replicate_zero, List.cons_append, List.nil_append, Nat.reduceSub, Nat.reduceAdd, Int.cast_ofNat_Int, Int.natCast_zero, Int.natCast_one, decide_true, decide_false, not_false_eq_true, Int.reduceEq, Int.reduceLT, Int.reduceLE, Int.reduceNeg]
        exact ⟨h1, q _ rfl⟩) q⟩
theorem rd__law_lists {n ds Q X} (h : sp__law_lists (n + 1) ds Q X) : t__law_lists (sp__law_lists n) X (endD Q) (startD 2 ds) := by
  match ds, h with
  | [d], ⟨h, q⟩ =>
    cases d <;> simp only [okN, Bool.false_eq_true, Bool.and_eq_true, decide_eq_true_eq] at h <;> (unfold t__law_lists; walk_at "run") <;> (first | exact q | skip)
    all_goals
      rw [lstD, lstDs_map] at q
      exact ⟨size_of h.1, compD_fun lstD rfl (fun x hx Q q => by
        have h1 := List.all_eq_true.mp h.2 x hx
        simp -dsimp only [okN_own h1, ↓DL.e_while, ↓DL.e_seq, ↓DL.e_next, ↓DL.e_break, ↓DL.e_cont, ↓DL.e_drop, ↓DL.e_ret, ↓DL.e_retN, ↓DL.e_ifS, ↓DL.e_set, ↓DL.e_own, ↓DL.e_par, ↓DL.e_asg, ↓DL.e_kName, ↓DL.e_kNil, ↓DL.e_kCons, ↓DL.e_kTup, ↓DL.e_for, ↓DL.e_raise, ↓DL.e_try, ↓DL.e_var, ↓DL.e_c, ↓DL.e_op, ↓DL.e_un, ↓DL.e_if, ↓DL.e_andV, ↓DL.e_orV, ↓DL.e_notV, ↓DL.e_chain, ↓DL.e_B, ↓DL.e_and, ↓DL.e_or, ↓DL.e_not, ↓DL.e_yes, ↓DL.e_isi, ↓DL.e_CB, ↓DL.e_nil, ↓DL.e_cons, ↓DL.e_tup, ↓DL.e_fr, ↓DL.e_lst, ↓DL.e_listOf, ↓DL.e_call, ↓DL.e_seqIt, ↓DL.e_ran1, ↓DL.e_ran2, ↓DL.e_comp, ↓DL.e_lenOwn, ↓DL.e_ownM, ↓DL.e_strM, ↓DL.e_split, ↓DL.e_fmt, ↓DL.e_joined, ↓DL.e_js0, ↓DL.e_js, ↓DL.e_noPart, ↓DL.e_part, ↓DL.e_sl, ↓DL.e_xf, ↓DL.e_isE, DL.g_ifT, DL.g_ifF, DL.g_bl, DL.g_int, DL.g_str, DL.g_step, DL.g_some, DL.g_none, DL.g_slst, DL.g_stup, DL.g_sstr, DL.g_sscr, DL.gd_0, DL.gd_s, DL.sd_0, DL.sd_s, DL.g_par, DL.g_tupG, DL.g_vown, DL.g_vval, DL.g_listOft, DL.g_listOfl, DL.g_ran1, DL.g_ran2, DL.wipe_0, DL.wipe_s, DL.g_own, DL.g_append, DL.g_pop, DL.g_joinl, DL.g_joint, DL.g_fmts, DL.g_fmti, DL.g_slt, DL.g_sls, DL.o_int0, DL.o_int, DL.o_addi, DL.o_adds, DL.o_addt, DL.o_addl, DL.o_eqi, DL.o_nei, DL.o_isN, DL.o_notN, DL.o_bl2, DL.o_ixt, DL.o_ixl, DL.o_ixs, DL.o_inss, DL.o_int_, DL.o_inl, DL.l_lent, DL.l_lenl, DL.l_lens, DL.l_abs, DL.l_inti, DL.l_intb, DL.l_str, DL.l_tupt, DL.l_tupl, DL.l_all, DL.l_sum, DL.isB_non, DL.isB_bl, DL.isB_int, DL.isB_str, DL.isB_tup, DL.isB_lst, DL.isN_non, DL.isN_bl, DL.isN_int, DL.isN_str, DL.isN_tup, DL.isN_lst, DL.isN_ins, DL.g_exc, DL.g_gnx, DL.g_grt, DL.g_gbk, DL.g_gct, DL.d_eq1, DL.d_eq0, DL.d_lt1, DL.d_lt0, DL.d_le1, DL.d_le0, DL.at0, DL.at1, DL.at2, DL.at3, DL.at4, DL.at5, DL.kit_nn_int, DL.kit_nn_bool, DL.kit_nn_str, DL.kit_nn_tuple, DL.kit_nn_list, DL.kit_bool_int, DL.kit_bool_bool, DL.kit_bool_str, DL.kit_bool_tuple, DL.kit_bool_list, DL.kit_int_int, DL.kit_int_bool, DL.kit_int_str, DL.kit_int_tuple, DL.kit_int_list, DL.kit_str_int, DL.kit_str_bool, DL.kit_str_str, DL.kit_str_tuple, DL.kit_str_list, DL.kit_tuple_int, DL.kit_tuple_bool, DL.kit_tuple_str, DL.kit_tuple_tuple, DL.kit_tuple_list, DL.kit_list_int, DL.kit_list_bool, DL.kit_list_str, DL.kit_list_tuple, DL.kit_list_list, DL.own_non, DL.own_bl, DL.own_int, DL.own_str, DL.own_tup, DL.own_lst, DL.own_bag, DL.own_scr, DL.own_ins, DL.own_exc, DL.o_eq, DL.o_ne, DL.cmp_int, DL.cmp_bl, DL.cmp_non, DL.eq_int, true_and, and_true, Bool.not_true, Bool.not_false, DL.xcOf, List.length_cons, List.length_nil, DL.startD, List.map_cons, List.map_nil, List.replicate_succ, List.replicate_zero, List.cons_append, List.nil_append, Nat.reduceSub, Nat.reduceAdd, Int.cast_ofNat_Int, Int.natCast_zero, Int.natCast_one, decide_true, decide_false, not_false_eq_true, Int.reduceEq, Int.reduceLT, Int.reduceLE, Int.reduceNeg]
        exact ⟨h1, q _ rfl⟩) q⟩
theorem rd__law_integer {ds Q X} (h : sp__law_integer ds Q X) : t__law_integer X (endD Q) (startD 1 ds) := by
  match ds, h with
  | [d], ⟨h, q⟩ =>
    cases d <;> simp only [okN, Bool.false_eq_true] at h <;> (unfold t__law_integer; walk_at "run") <;> exact q
theorem plain_loop {n : Nat} {Q : D → Prop} {X : Str → List D → Prop} {d : D} {R : Endd} (hR : R.rt = Q) : ∀ (xs : List D) (z : Option D), (∀ x ∈ xs, okN n x = true) → (plainBs xs = true → ∀ z, R.nx [some d, z]) → (plainBs xs = false → Q (.bl false)) →
    loopD (kName 1) (dIfS (dNot (dB (dCall (sp__law_plain n) (xcOf X) (dCons (dVar 1) (dNil))))) (dRet (dC (.bl false))) (dNext)) R xs [some d, z]
  | [], z, _, h1, _ => h1 rfl z
  | x :: xs, z, h0, h1, h2 => by
    have hx := h0 x List.mem_cons_self
    simp -dsimp only [loopD, okN_own hx, ↓DL.e_while, ↓DL.e_seq, ↓DL.e_next, ↓DL.e_break, ↓DL.e_cont, ↓DL.e_drop, ↓DL.e_ret, ↓DL.e_retN, ↓DL.e_ifS, ↓DL.e_set, ↓DL.e_own, ↓DL.e_par, ↓DL.e_asg, ↓DL.e_kName, ↓DL.e_kNil, ↓DL.e_kCons, ↓DL.e_kTup, ↓DL.e_for, ↓DL.e_raise, ↓DL.e_try, ↓DL.e_var, ↓DL.e_c, ↓DL.e_op, ↓DL.e_un, ↓DL.e_if, ↓DL.e_andV, ↓DL.e_orV, ↓DL.e_notV, ↓DL.e_chain, ↓DL.e_B, ↓DL.e_and, ↓DL.e_or, ↓DL.e_not, ↓DL.e_yes, ↓DL.e_isi, ↓DL.e_CB, ↓DL.e_nil, ↓DL.e_cons, ↓DL.e_tup, ↓DL.e_fr, ↓DL.e_lst, ↓DL.e_listOf, ↓DL.e_call, ↓DL.e_seqIt, ↓DL.e_ran1, ↓DL.e_ran2, ↓DL.e_comp, ↓DL.e_lenOwn, ↓DL.e_ownM, ↓DL.e_strM, ↓DL.e_split, ↓DL.e_fmt, ↓DL.e_joined, ↓DL.e_js0, ↓DL.e_js, ↓DL.e_noPart, ↓DL.e_part, ↓DL.e_sl, ↓DL.e_xf, ↓DL.e_isE, DL.g_ifT, DL.g_ifF, DL.g_bl, DL.g_int, DL.g_str, DL.g_step, DL.g_some, DL.g_none, DL.g_slst, DL.g_stup, DL.g_sstr, DL.g_sscr, DL.gd_0, DL.gd_s, DL.sd_0, DL.sd_s, DL.g_par, DL.g_tupG, DL.g_vown, DL.g_vval, DL.g_listOft, DL.g_listOfl, DL.g_ran1, DL.g_ran2, DL.wipe_0, DL.wipe_s, DL.g_own, DL.g_append, DL.g_pop, DL.g_joinl, DL.g_joint, DL.g_fmts, DL.g_fmti, DL.g_slt, DL.g_sls, DL.o_int0, DL.o_int, DL.o_addi, DL.o_adds, DL.o_addt, DL.o_addl, DL.o_eqi, DL.o_nei, DL.o_isN, DL.o_notN, DL.o_bl2, DL.o_ixt, DL.o_ixl, DL.o_ixs, DL.o_inss, DL.o_int_, DL.o_inl, DL.l_lent, DL.l_lenl, DL.l_lens, DL.l_abs, DL.l_inti, DL.l_intb, DL.l_str, DL.l_tupt, DL.l_tupl, DL.l_all, DL.l_sum, DL.isB_non, DL.isB_bl, DL.isB_int, DL.isB_str, DL.isB_tup, DL.isB_lst, DL.isN_non, DL.isN_bl, DL.isN_int, DL.isN_str, DL.isN_tup, DL.isN_lst, DL.isN_ins, DL.g_exc, DL.g_gnx, DL.g_grt, DL.g_gbk, DL.g_gct, DL.d_eq1, DL.d_eq0, DL.d_lt1, DL.d_lt0, DL.d_le1, DL.d_le0, DL.at0, DL.at1, DL.at2, DL.at3, DL.at4, DL.at5, DL.kit_nn_int, DL.kit_nn_bool, DL.kit_nn_str, DL.kit_nn_tuple, DL.kit_nn_list, DL.kit_bool_int, DL.kit_bool_bool, DL.kit_bool_str, DL.kit_bool_tuple, DL.kit_bool_list, DL.kit_int_int, DL.kit_int_bool, DL.kit_int_str, DL.kit_int_tuple, DL.kit_int_list, DL.kit_str_int, DL.kit_str_bool, DL.kit_str_str, DL.kit_str_tuple, DL.kit_str_list, DL.kit_tuple_int, DL.kit_tuple_bool, DL.kit_tuple_str, DL.kit_tuple_tuple, DL.kit_tuple_list, DL.kit_list_int, DL.kit_list_bool, DL.kit_list_str, DL.kit_list_tuple, DL.kit_list_list, DL.own_non, DL.own_bl, DL.own_int, DL.own_str, DL.own_tup, DL.own_lst, DL.own_bag, DL.own_scr, DL.own_ins, DL.own_exc, DL.o_eq, DL.o_ne, DL.cmp_int, DL.cmp_bl, DL.cmp_non, DL.eq_int, true_and, and_true, Bool.not_true, Bool.not_false, DL.xcOf, List.length_cons, List.length_nil, DL.startD, List.map_cons, List.map_nil, List.replicate_succ, List.replicate_zero, List.cons_append, List.nil_append, Nat.reduceSub, Nat.reduceAdd, Int.cast_ofNat_Int, Int.natCast_zero, Int.natCast_one, decide_true, decide_false, not_false_eq_true, Int.reduceEq, Int.reduceLT, Int.reduceLE, Int.reduceNeg]
    refine ⟨hx, ?_⟩
    walk_at "run"
    cases e : plainB x with
    | false =>
      simp -dsimp only [hR, ↓DL.e_while, ↓DL.e_seq, ↓DL.e_next, ↓DL.e_break, ↓DL.e_cont, ↓DL.e_drop, ↓DL.e_ret, ↓DL.e_retN, ↓DL.e_ifS, ↓DL.e_set, ↓DL.e_own, ↓DL.e_par, ↓DL.e_asg, ↓DL.e_kName, ↓DL.e_kNil, ↓DL.e_kCons, ↓DL.e_kTup, ↓DL.e_for, ↓DL.e_raise, ↓DL.e_try, ↓DL.e_var, ↓DL.e_c, ↓DL.e_op, ↓DL.e_un, ↓DL.e_if, ↓DL.e_andV, ↓DL.e_orV, ↓DL.e_notV, ↓DL.e_chain, ↓DL.e_B, ↓DL.e_and, ↓DL.e_or, ↓DL.e_not, ↓DL.e_yes, ↓DL.e_isi, ↓DL.e_CB, ↓DL.e_nil, ↓DL.e_cons, ↓DL.e_tup, ↓DL.e_fr, ↓DL.e_lst, ↓DL.e_listOf, ↓DL.e_call, ↓DL.e_seqIt, ↓DL.e_ran1, ↓DL.e_ran2, ↓DL.e_comp, ↓DL.e_lenOwn, ↓DL.e_ownM, ↓DL.e_strM, ↓DL.e_split, ↓DL.e_fmt, ↓DL.e_joined, ↓DL.e_js0, ↓DL.e_js, ↓DL.e_noPart, ↓DL.e_part, ↓DL.e_sl, ↓DL.e_xf, ↓DL.e_isE, DL.g_ifT, DL.g_ifF, DL.g_bl, DL.g_int, DL.g_str, DL.g_step, DL.g_some, DL.g_none, DL.g_slst, DL.g_stup, DL.g_sstr, DL.g_sscr, DL.gd_0, DL.gd_s, DL.sd_0, DL.sd_s, DL.g_par, DL.g_tupG, DL.g_vown, DL.g_vval, DL.g_listOft, DL.g_listOfl, DL.g_ran1, DL.g_ran2, DL.wipe_0, DL.wipe_s, DL.g_own, DL.g_append, DL.g_pop, DL.g_joinl, DL.g_joint, DL.g_fmts, DL.g_fmti, DL.g_slt, DL.g_sls, DL.o_int0, DL.o_int, DL.o_addi, DL.o_adds, DL.o_addt, DL.o_addl, DL.o_eqi, DL.o_nei, DL.o_isN, DL.o_notN, DL.o_bl2, DL.o_ixt, DL.o_ixl, DL.o_ixs, DL.o_inss, DL.o_int_, DL.o_inl, DL.l_lent, DL.l_lenl, DL.l_lens, DL.l_abs, DL.l_inti, DL.l_intb, DL.l_str, DL.l_tupt, DL.l_tupl, DL.l_all, DL.l_sum, DL.isB_non, DL.isB_bl, DL.isB_int, DL.isB_str, DL.isB_tup, DL.isB_lst, DL.isN_non, DL.isN_bl, DL.isN_int, DL.isN_str, DL.isN_tup, DL.isN_lst, DL.isN_ins, DL.g_exc, DL.g_gnx, DL.g_grt, DL.g_gbk, DL.g_gct, DL.d_eq1, DL.d_eq0, DL.d_lt1, DL.d_lt0, DL.d_le1, DL.d_le0, DL.at0, DL.at1, DL.at2, DL.at3, DL.at4, DL.at5, DL.kit_nn_int, DL.kit_nn_bool, DL.kit_nn_str, DL.kit_nn_tuple, DL.kit_nn_list, DL.kit_bool_int, DL.kit_bool_bool, DL.kit_bool_str, DL.kit_bool_tuple, DL.kit_bool_list, DL.kit_int_int, DL.kit_int_bool, DL.kit_int_str, DL.kit_int_tuple, DL.kit_int_list, DL.kit_str_int, DL.kit_str_bool, DL.kit_str_str, DL.kit_str_tuple, DL.kit_str_list, DL.kit_tuple_int, DL.kit_tuple_bool, DL.kit_tuple_str, DL.kit_tuple_tuple, DL.kit_tuple_list, DL.kit_list_int, DL.kit_list_bool, DL.kit_list_str, DL.kit_list_tuple, DL.kit_list_list, DL.own_non, DL.own_bl, DL.own_int, DL.own_str, DL.own_tup, DL.own_lst, DL.own_bag, DL.own_scr, DL.own_ins, DL.own_exc, DL.o_eq, DL.o_ne, DL.cmp_int, DL.cmp_bl, DL.cmp_non, DL.eq_int, true_and, and_true, Bool.not_true, Bool.not_false, DL.xcOf, List.length_cons, List.length_nil, DL.startD, List.map_cons, List.map_nil, List.replicate_succ, List.replicate_zero, List.cons_append, List.nil_append, Nat.reduceSub, Nat.reduceAdd, Int.cast_ofNat_Int, Int.natCast_zero, Int.natCast_one, decide_true, decide_false, not_false_eq_true, Int.reduceEq, Int.reduceLT, Int.reduceLE, Int.reduceNeg]
      exact h2 (by rw [plainBs, e]; rfl)
    | true =>
      walk_at "run"
      exact plain_loop (R := R) hR xs _ (fun y hy => h0 y (List.mem_cons_of_mem _ hy)) (fun h => h1 (by rw [plainBs, e, h]; rfl)) (fun h => h2 (by rw [plainBs, e, h]; rfl))
theorem rd__law_plain {n ds Q X} (hn : n ≤ 7) (h : sp__law_plain (n + 1) ds Q X) : t__law_plain (sp__law_plain n) X (endD Q) (startD 2 ds) := by
  match ds, h with
  | [d], ⟨h, q⟩ =>
    have h8 := okN_mono h (show n + 1 ≤ 8 by omega)
    cases d <;> simp only [okN, Bool.false_eq_true, Bool.and_eq_true, decide_eq_true_eq] at h <;> (unfold t__law_plain; walk_at "run") <;> (first | exact q | exact ⟨h8, q⟩ | skip)
    refine plain_loop rfl _ _ (fun x hx => List.all_eq_true.mp h.2 x hx) (fun e z => ?_) (fun e => ?_)
    · have q' := q
      simp only [plainB, e] at q'
      exact q'
    · have q' := q
      simp only [plainB, e] at q'
      exact q'
/-! ### is_ratio -/
theorem okN_tup : ∀ (n : Nat) (d : D), okN n d = true → okN n (tupD d) = true := by
  intro n
  induction n with
  | zero => intro d h; cases d <;> simp only [okN, Bool.false_eq_true] at h <;> first | rfl | exact h
  | succ n ih =>
    intro d h
    cases d <;> simp only [okN, Bool.false_eq_true, Bool.and_eq_true, decide_eq_true_eq] at h <;> first | rfl | (simp only [tupD, okN, Bool.and_eq_true, decide_eq_true_eq]; exact h) | skip
    all_goals
      rw [tupD, tupDs_map]
      simp only [okN, Bool.and_eq_true, decide_eq_true_eq, List.length_map]
      refine ⟨h.1, List.all_eq_true.mpr fun y hy => ?_⟩
      obtain ⟨x, hx, rfl⟩ := List.mem_map.mp hy
      exact ih x (List.all_eq_true.mp h.2 x hx)
theorem inRng_int {p lo hi : Int} : inRng (.int p) lo hi = decide (lo ≤ p ∧ p ≤ hi) := by
  show (decide (lo ≤ p) && decide (p ≤ hi)) = _
  rw [Bool.decide_and]
theorem fits_int {p q : Int} : fitsR (.tup [.int p, .int q]) = decide ((-999 ≤ p ∧ p ≤ 999) ∧ (1 ≤ q ∧ q ≤ 99) ∧ gcdI p q = 1) := by
  show (decide (-999 ≤ p) && decide (p ≤ 999) && decide (1 ≤ q) && decide (q ≤ 99) && decide (gcdI p q = 1)) = _
  simp only [Bool.decide_and, Bool.and_assoc]
theorem rd_rate_of {ds Q X} (h : sp_rate_of ds Q X) : t_rate_of X (endD Q) (startD 2 ds) := by
  match ds, h with
  | [d], ⟨h, q⟩ =>
    simp -dsimp only [t_rate_of, okN_own h, ↓DL.e_while, ↓DL.e_seq, ↓DL.e_next, ↓DL.e_break, ↓DL.e_cont, ↓DL.e_drop, ↓DL.e_ret, ↓DL.e_retN, ↓DL.e_ifS, ↓DL.e_set, ↓DL.e_own, ↓DL.e_par, ↓DL.e_asg, ↓DL.e_kName, ↓DL.e_kNil, ↓DL.e_kCons, ↓DL.e_kTup, ↓DL.e_for, ↓DL.e_raise, ↓DL.e_try, ↓DL.e_var, ↓DL.e_c, ↓DL.e_op, ↓DL.e_un, ↓DL.e_if, ↓DL.e_andV, ↓DL.e_orV, ↓DL.e_notV, ↓DL.e_chain, ↓DL.e_B, ↓DL.e_and, ↓DL.e_or, ↓DL.e_not, ↓DL.e_yes, ↓DL.e_isi, ↓DL.e_CB, ↓DL.e_nil, ↓DL.e_cons, ↓DL.e_tup, ↓DL.e_fr, ↓DL.e_lst, ↓DL.e_listOf, ↓DL.e_call, ↓DL.e_seqIt, ↓DL.e_ran1, ↓DL.e_ran2, ↓DL.e_comp, ↓DL.e_lenOwn, ↓DL.e_ownM, ↓DL.e_strM, ↓DL.e_split, ↓DL.e_fmt, ↓DL.e_joined, ↓DL.e_js0, ↓DL.e_js, ↓DL.e_noPart, ↓DL.e_part, ↓DL.e_sl, ↓DL.e_xf, ↓DL.e_isE, DL.g_ifT, DL.g_ifF, DL.g_bl, DL.g_int, DL.g_str, DL.g_step, DL.g_some, DL.g_none, DL.g_slst, DL.g_stup, DL.g_sstr, DL.g_sscr, DL.gd_0, DL.gd_s, DL.sd_0, DL.sd_s, DL.g_par, DL.g_tupG, DL.g_vown, DL.g_vval, DL.g_listOft, DL.g_listOfl, DL.g_ran1, DL.g_ran2, DL.wipe_0, DL.wipe_s, DL.g_own, DL.g_append, DL.g_pop, DL.g_joinl, DL.g_joint, DL.g_fmts, DL.g_fmti, DL.g_slt, DL.g_sls, DL.o_int0, DL.o_int, DL.o_addi, DL.o_adds, DL.o_addt, DL.o_addl, DL.o_eqi, DL.o_nei, DL.o_isN, DL.o_notN, DL.o_bl2, DL.o_ixt, DL.o_ixl, DL.o_ixs, DL.o_inss, DL.o_int_, DL.o_inl, DL.l_lent, DL.l_lenl, DL.l_lens, DL.l_abs, DL.l_inti, DL.l_intb, DL.l_str, DL.l_tupt, DL.l_tupl, DL.l_all, DL.l_sum, DL.isB_non, DL.isB_bl, DL.isB_int, DL.isB_str, DL.isB_tup, DL.isB_lst, DL.isN_non, DL.isN_bl, DL.isN_int, DL.isN_str, DL.isN_tup, DL.isN_lst, DL.isN_ins, DL.g_exc, DL.g_gnx, DL.g_grt, DL.g_gbk, DL.g_gct, DL.d_eq1, DL.d_eq0, DL.d_lt1, DL.d_lt0, DL.d_le1, DL.d_le0, DL.at0, DL.at1, DL.at2, DL.at3, DL.at4, DL.at5, DL.kit_nn_int, DL.kit_nn_bool, DL.kit_nn_str, DL.kit_nn_tuple, DL.kit_nn_list, DL.kit_bool_int, DL.kit_bool_bool, DL.kit_bool_str, DL.kit_bool_tuple, DL.kit_bool_list, DL.kit_int_int, DL.kit_int_bool, DL.kit_int_str, DL.kit_int_tuple, DL.kit_int_list, DL.kit_str_int, DL.kit_str_bool, DL.kit_str_str, DL.kit_str_tuple, DL.kit_str_list, DL.kit_tuple_int, DL.kit_tuple_bool, DL.kit_tuple_str, DL.kit_tuple_tuple, DL.kit_tuple_list, DL.kit_list_int, DL.kit_list_bool, DL.kit_list_str, DL.kit_list_tuple, DL.kit_list_list, DL.own_non, DL.own_bl, DL.own_int, DL.own_str, DL.own_tup, DL.own_lst, DL.own_bag, DL.own_scr, DL.own_ins, DL.own_exc, DL.o_eq, DL.o_ne, DL.cmp_int, DL.cmp_bl, DL.cmp_non, DL.eq_int, true_and, and_true, Bool.not_true, Bool.not_false, DL.xcOf, List.length_cons, List.length_nil, DL.startD, List.map_cons, List.map_nil, List.replicate_succ, List.replicate_zero, List.cons_append, List.nil_append, Nat.reduceSub, Nat.reduceAdd, Int.cast_ofNat_Int, Int.natCast_zero, Int.natCast_one, decide_true, decide_false, not_false_eq_true, Int.reduceEq, Int.reduceLT, Int.reduceLE, Int.reduceNeg]
    refine ⟨h, ?_⟩
    have he := okN_tup 8 d h
    revert q he
    generalize tupD d = e
    intro q he
    cases e <;> simp only [okN, Bool.false_eq_true, Bool.and_eq_true, decide_eq_true_eq] at he <;> walk_at "run" <;> (first | exact q | skip)
    rename_i xs
    have ha := List.all_eq_true.mp he.2
    match xs, q, ha with
    | [], q, _ => walk_at "run"; exact q
    | [a], q, _ =>
      have e : fitsR (.tup [a]) = false := by cases a <;> rfl
      rw [e] at q
      exact q
    | a :: b :: c :: r, q, _ =>
      walk_at "run"
      refine if_ndec (fun _ => ?_) (fun z => by simp at z; omega)
      walk_at "run"
      have e : fitsR (.tup (a :: b :: c :: r)) = false := by cases a <;> cases b <;> rfl
      rw [e] at q
      exact q
    | [a, b], q, ha =>
      have h1 := okN_mono (ha a (by simp)) (show 7 ≤ 8 by omega)
      have h2 := okN_mono (ha b (by simp)) (show 7 ≤ 8 by omega)
      walk_at "run"
      refine ⟨h1, ?_⟩
      cases a <;> simp only [okN, Bool.false_eq_true] at h1 <;> simp -dsimp only [inRng, ↓DL.e_while, ↓DL.e_seq, ↓DL.e_next, ↓DL.e_break, ↓DL.e_cont, ↓DL.e_drop, ↓DL.e_ret, ↓DL.e_retN, ↓DL.e_ifS, ↓DL.e_set, ↓DL.e_own, ↓DL.e_par, ↓DL.e_asg, ↓DL.e_kName, ↓DL.e_kNil, ↓DL.e_kCons, ↓DL.e_kTup, ↓DL.e_for, ↓DL.e_raise, ↓DL.e_try, ↓DL.e_var, ↓DL.e_c, ↓DL.e_op, ↓DL.e_un, ↓DL.e_if, ↓DL.e_andV, ↓DL.e_orV, ↓DL.e_notV, ↓DL.e_chain, ↓DL.e_B, ↓DL.e_and, ↓DL.e_or, ↓DL.e_not, ↓DL.e_yes, ↓DL.e_isi, ↓DL.e_CB, ↓DL.e_nil, ↓DL.e_cons, ↓DL.e_tup, ↓DL.e_fr, ↓DL.e_lst, ↓DL.e_listOf, ↓DL.e_call, ↓DL.e_seqIt, ↓DL.e_ran1, ↓DL.e_ran2, ↓DL.e_comp, ↓DL.e_lenOwn, ↓DL.e_ownM, ↓DL.e_strM, ↓DL.e_split, ↓DL.e_fmt, ↓DL.e_joined, ↓DL.e_js0, ↓DL.e_js, ↓DL.e_noPart, ↓DL.e_part, ↓DL.e_sl, ↓DL.e_xf, ↓DL.e_isE, DL.g_ifT, DL.g_ifF, DL.g_bl, DL.g_int, DL.g_str, DL.g_step, DL.g_some, DL.g_none, DL.g_slst, DL.g_stup, DL.g_sstr, DL.g_sscr, DL.gd_0, DL.gd_s, DL.sd_0, DL.sd_s, DL.g_par, DL.g_tupG, DL.g_vown, DL.g_vval, DL.g_listOft, DL.g_listOfl, DL.g_ran1, DL.g_ran2, DL.wipe_0, DL.wipe_s, DL.g_own, DL.g_append, DL.g_pop, DL.g_joinl, DL.g_joint, DL.g_fmts, DL.g_fmti, DL.g_slt, DL.g_sls, DL.o_int0, DL.o_int, DL.o_addi, DL.o_adds, DL.o_addt, DL.o_addl, DL.o_eqi, DL.o_nei, DL.o_isN, DL.o_notN, DL.o_bl2, DL.o_ixt, DL.o_ixl, DL.o_ixs, DL.o_inss, DL.o_int_, DL.o_inl, DL.l_lent, DL.l_lenl, DL.l_lens, DL.l_abs, DL.l_inti, DL.l_intb, DL.l_str, DL.l_tupt, DL.l_tupl, DL.l_all, DL.l_sum, DL.isB_non, DL.isB_bl, DL.isB_int, DL.isB_str, DL.isB_tup, DL.isB_lst, DL.isN_non, DL.isN_bl, DL.isN_int, DL.isN_str, DL.isN_tup, DL.isN_lst, DL.isN_ins, DL.g_exc, DL.g_gnx, DL.g_grt, DL.g_gbk, DL.g_gct, DL.d_eq1, DL.d_eq0, DL.d_lt1, DL.d_lt0, DL.d_le1, DL.d_le0, DL.at0, DL.at1, DL.at2, DL.at3, DL.at4, DL.at5, DL.kit_nn_int, DL.kit_nn_bool, DL.kit_nn_str, DL.kit_nn_tuple, DL.kit_nn_list, DL.kit_bool_int, DL.kit_bool_bool, DL.kit_bool_str, DL.kit_bool_tuple, DL.kit_bool_list, DL.kit_int_int, DL.kit_int_bool, DL.kit_int_str, DL.kit_int_tuple, DL.kit_int_list, DL.kit_str_int, DL.kit_str_bool, DL.kit_str_str, DL.kit_str_tuple, DL.kit_str_list, DL.kit_tuple_int, DL.kit_tuple_bool, DL.kit_tuple_str, DL.kit_tuple_tuple, DL.kit_tuple_list, DL.kit_list_int, DL.kit_list_bool, DL.kit_list_str, DL.kit_list_tuple, DL.kit_list_list, DL.own_non, DL.own_bl, DL.own_int, DL.own_str, DL.own_tup, DL.own_lst, DL.own_bag, DL.own_scr, DL.own_ins, DL.own_exc, DL.o_eq, DL.o_ne, DL.cmp_int, DL.cmp_bl, DL.cmp_non, DL.eq_int, true_and, and_true, Bool.not_true, Bool.not_false, DL.xcOf, List.length_cons, List.length_nil, DL.startD, List.map_cons, List.map_nil, List.replicate_succ, List.replicate_zero, List.cons_append, List.nil_append, Nat.reduceSub, Nat.reduceAdd, Int.cast_ofNat_Int, Int.natCast_zero, Int.natCast_one, decide_true, decide_false, not_false_eq_true, Int.reduceEq, Int.reduceLT, Int.reduceLE, Int.reduceNeg] <;> (first | exact q | skip)
      rename_i p
      rw [← Bool.decide_and]
      refine if_ndec (fun z => ?_) (fun z => ?_)
      · walk_at "run"
        have e : fitsR (.tup [.int p, b]) = false := by cases b <;> first | rfl | (rw [fits_int]; exact decide_eq_false fun y => z y.1)
        rw [e] at q
        exact q
      · walk_at "run"
        refine ⟨h2, ?_⟩
        cases b <;> simp only [okN, Bool.false_eq_true] at h2 <;> simp -dsimp only [inRng, ↓DL.e_while, ↓DL.e_seq, ↓DL.e_next, ↓DL.e_break, ↓DL.e_cont, ↓DL.e_drop, ↓DL.e_ret, ↓DL.e_retN, ↓DL.e_ifS, ↓DL.e_set, ↓DL.e_own, ↓DL.e_par, ↓DL.e_asg, ↓DL.e_kName, ↓DL.e_kNil, ↓DL.e_kCons, ↓DL.e_kTup, ↓DL.e_for, ↓DL.e_raise, ↓DL.e_try, ↓DL.e_var, ↓DL.e_c, ↓DL.e_op, ↓DL.e_un, ↓DL.e_if, ↓DL.e_andV, ↓DL.e_orV, ↓DL.e_notV, ↓DL.e_chain, ↓DL.e_B, ↓DL.e_and, ↓DL.e_or, ↓DL.e_not, ↓DL.e_yes, ↓DL.e_isi, ↓DL.e_CB, ↓DL.e_nil, ↓DL.e_cons, ↓DL.e_tup, ↓DL.e_fr, ↓DL.e_lst, ↓DL.e_listOf, ↓DL.e_call, ↓DL.e_seqIt, ↓DL.e_ran1, ↓DL.e_ran2, ↓DL.e_comp, ↓DL.e_lenOwn, ↓DL.e_ownM, ↓DL.e_strM, ↓DL.e_split, ↓DL.e_fmt, ↓DL.e_joined, ↓DL.e_js0, ↓DL.e_js, ↓DL.e_noPart, ↓DL.e_part, ↓DL.e_sl, ↓DL.e_xf, ↓DL.e_isE, DL.g_ifT, DL.g_ifF, DL.g_bl, DL.g_int, DL.g_str, DL.g_step, DL.g_some, DL.g_none, DL.g_slst, DL.g_stup, DL.g_sstr, DL.g_sscr, DL.gd_0, DL.gd_s, DL.sd_0, DL.sd_s, DL.g_par, DL.g_tupG, DL.g_vown, DL.g_vval, DL.g_listOft, DL.g_listOfl, DL.g_ran1, DL.g_ran2, DL.wipe_0, DL.wipe_s, DL.g_own, DL.g_append, DL.g_pop, DL.g_joinl, DL.g_joint, DL.g_fmts, DL.g_fmti, DL.g_slt, DL.g_sls, DL.o_int0, DL.o_int, DL.o_addi, DL.o_adds, DL.o_addt, DL.o_addl, DL.o_eqi, DL.o_nei, DL.o_isN, DL.o_notN, DL.o_bl2, DL.o_ixt, DL.o_ixl, DL.o_ixs, DL.o_inss, DL.o_int_, DL.o_inl, DL.l_lent, DL.l_lenl, DL.l_lens, DL.l_abs, DL.l_inti, DL.l_intb, DL.l_str, DL.l_tupt, DL.l_tupl, DL.l_all, DL.l_sum, DL.isB_non, DL.isB_bl, DL.isB_int, DL.isB_str, DL.isB_tup, DL.isB_lst, DL.isN_non, DL.isN_bl, DL.isN_int, DL.isN_str, DL.isN_tup, DL.isN_lst, DL.isN_ins, DL.g_exc, DL.g_gnx, DL.g_grt, DL.g_gbk, DL.g_gct, DL.d_eq1, DL.d_eq0, DL.d_lt1, DL.d_lt0, DL.d_le1, DL.d_le0, DL.at0, DL.at1, DL.at2, DL.at3, DL.at4, DL.at5, DL.kit_nn_int, DL.kit_nn_bool, DL.kit_nn_str, DL.kit_nn_tuple, DL.kit_nn_list, DL.kit_bool_int, DL.kit_bool_bool, DL.kit_bool_str, DL.kit_bool_tuple, DL.kit_bool_list, DL.kit_int_int, DL.kit_int_bool, DL.kit_int_str, DL.kit_int_tuple, DL.kit_int_list, DL.kit_str_int, DL.kit_str_bool, DL.kit_str_str, DL.kit_str_tuple, DL.kit_str_list, DL.kit_tuple_int, DL.kit_tuple_bool, DL.kit_tuple_str, DL.kit_tuple_tuple, DL.kit_tuple_list, DL.kit_list_int, DL.kit_list_bool, DL.kit_list_str, DL.kit_list_tuple, DL.kit_list_list, DL.own_non, DL.own_bl, DL.own_int, DL.own_str, DL.own_tup, DL.own_lst, DL.own_bag, DL.own_scr, DL.own_ins, DL.own_exc, DL.o_eq, DL.o_ne, DL.cmp_int, DL.cmp_bl, DL.cmp_non, DL.eq_int, true_and, and_true, Bool.not_true, Bool.not_false, DL.xcOf, List.length_cons, List.length_nil, DL.startD, List.map_cons, List.map_nil, List.replicate_succ, List.replicate_zero, List.cons_append, List.nil_append, Nat.reduceSub, Nat.reduceAdd, Int.cast_ofNat_Int, Int.natCast_zero, Int.natCast_one, decide_true, decide_false, not_false_eq_true, Int.reduceEq, Int.reduceLT, Int.reduceLE, Int.reduceNeg] <;> (first | exact q | skip)
        rename_i q2
        rw [fits_int] at q
        rw [← Bool.decide_and]
        refine if_ndec (fun y => ?_) (fun y => ?_)
        · walk_at "run"
          rw [decide_eq_false fun x => y x.2.1] at q
          exact q
        · walk_at "run"
          refine ⟨abs_nn, by omega, ?_⟩
          rw [gcdI_abs]
          walk_at "run"
          refine if_ndec (fun x => ?_) (fun x => ?_)
          · walk_at "run"
            rw [decide_eq_false fun w => x w.2.2] at q
            exact q
          · walk_at "run"
            rw [decide_eq_true ⟨z, y, x⟩] at q
            exact q
theorem rd_is_ratio {ds Q X} (h : sp_is_ratio ds Q X) : t_is_ratio X (endD Q) (startD 1 ds) := by
  match ds, h with
  | [d], ⟨h, q⟩ =>
    simp -dsimp only [t_is_ratio, okN_own h, ↓DL.e_while, ↓DL.e_seq, ↓DL.e_next, ↓DL.e_break, ↓DL.e_cont, ↓DL.e_drop, ↓DL.e_ret, ↓DL.e_retN, ↓DL.e_ifS, ↓DL.e_set, ↓DL.e_own, ↓DL.e_par, ↓DL.e_asg, ↓DL.e_kName, ↓DL.e_kNil, ↓DL.e_kCons, ↓DL.e_kTup, ↓DL.e_for, ↓DL.e_raise, ↓DL.e_try, ↓DL.e_var, ↓DL.e_c, ↓DL.e_op, ↓DL.e_un, ↓DL.e_if, ↓DL.e_andV, ↓DL.e_orV, ↓DL.e_notV, ↓DL.e_chain, ↓DL.e_B, ↓DL.e_and, ↓DL.e_or, ↓DL.e_not, ↓DL.e_yes, ↓DL.e_isi, ↓DL.e_CB, ↓DL.e_nil, ↓DL.e_cons, ↓DL.e_tup, ↓DL.e_fr, ↓DL.e_lst, ↓DL.e_listOf, ↓DL.e_call, ↓DL.e_seqIt, ↓DL.e_ran1, ↓DL.e_ran2, ↓DL.e_comp, ↓DL.e_lenOwn, ↓DL.e_ownM, ↓DL.e_strM, ↓DL.e_split, ↓DL.e_fmt, ↓DL.e_joined, ↓DL.e_js0, ↓DL.e_js, ↓DL.e_noPart, ↓DL.e_part, ↓DL.e_sl, ↓DL.e_xf, ↓DL.e_isE, DL.g_ifT, DL.g_ifF, DL.g_bl, DL.g_int, DL.g_str, DL.g_step, DL.g_some, DL.g_none, DL.g_slst, DL.g_stup, DL.g_sstr, DL.g_sscr, DL.gd_0, DL.gd_s, DL.sd_0, DL.sd_s, DL.g_par, DL.g_tupG, DL.g_vown, DL.g_vval, DL.g_listOft, DL.g_listOfl, DL.g_ran1, DL.g_ran2, DL.wipe_0, DL.wipe_s, DL.g_own, DL.g_append, DL.g_pop, DL.g_joinl, DL.g_joint, DL.g_fmts, DL.g_fmti, DL.g_slt, DL.g_sls, DL.o_int0, DL.o_int, DL.o_addi, DL.o_adds, DL.o_addt, DL.o_addl, DL.o_eqi, DL.o_nei, DL.o_isN, DL.o_notN, DL.o_bl2, DL.o_ixt, DL.o_ixl, DL.o_ixs, DL.o_inss, DL.o_int_, DL.o_inl, DL.l_lent, DL.l_lenl, DL.l_lens, DL.l_abs, DL.l_inti, DL.l_intb, DL.l_str, DL.l_tupt, DL.l_tupl, DL.l_all, DL.l_sum, DL.isB_non, DL.isB_bl, DL.isB_int, DL.isB_str, DL.isB_tup, DL.isB_lst, DL.isN_non, DL.isN_bl, DL.isN_int, DL.isN_str, DL.isN_tup, DL.isN_lst, DL.isN_ins, DL.g_exc, DL.g_gnx, DL.g_grt, DL.g_gbk, DL.g_gct, DL.d_eq1, DL.d_eq0, DL.d_lt1, DL.d_lt0, DL.d_le1, DL.d_le0, DL.at0, DL.at1, DL.at2, DL.at3, DL.at4, DL.at5, DL.kit_nn_int, DL.kit_nn_bool, DL.kit_nn_str, DL.kit_nn_tuple, DL.kit_nn_list, DL.kit_bool_int, DL.kit_bool_bool, DL.kit_bool_str, DL.kit_bool_tuple, DL.kit_bool_list, DL.kit_int_int, DL.kit_int_bool, DL.kit_int_str, DL.kit_int_tuple, DL.kit_int_list, DL.kit_str_int, DL.kit_str_bool, DL.kit_str_str, DL.kit_str_tuple, DL.kit_str_list, DL.kit_tuple_int, DL.kit_tuple_bool, DL.kit_tuple_str, DL.kit_tuple_tuple, DL.kit_tuple_list, DL.kit_list_int, DL.kit_list_bool, DL.kit_list_str, DL.kit_list_tuple, DL.kit_list_list, DL.own_non, DL.own_bl, DL.own_int, DL.own_str, DL.own_tup, DL.own_lst, DL.own_bag, DL.own_scr, DL.own_ins, DL.own_exc, DL.o_eq, DL.o_ne, DL.cmp_int, DL.cmp_bl, DL.cmp_non, DL.eq_int, true_and, and_true, Bool.not_true, Bool.not_false, DL.xcOf, List.length_cons, List.length_nil, DL.startD, List.map_cons, List.map_nil, List.replicate_succ, List.replicate_zero, List.cons_append, List.nil_append, Nat.reduceSub, Nat.reduceAdd, Int.cast_ofNat_Int, Int.natCast_zero, Int.natCast_one, decide_true, decide_false, not_false_eq_true, Int.reduceEq, Int.reduceLT, Int.reduceLE, Int.reduceNeg]
    refine ⟨h, ?_⟩
    cases e : fitsR (tupD d) with
    | false =>
      rw [e] at q
      exact q
    | true =>
      rw [e] at q
      show op2 _ (tupD d) .non _
      walk_at "run"
      have e2 : isNon (tupD d) = false := by
        cases d <;> first | (cases e; done) | rfl
      rw [e2]
      exact q
theorem rd__law_ratio_fits {ds Q X} (h : sp__law_ratio_fits ds Q X) : t__law_ratio_fits X (endD Q) (startD 1 ds) := by
  match ds, h with
  | [e], ⟨he, q⟩ =>
    have he0 := he
    cases e <;> simp only [okN, Bool.false_eq_true, Bool.and_eq_true, decide_eq_true_eq] at he <;> (unfold t__law_ratio_fits; walk_at "run") <;> (first | exact q | skip)
    rename_i xs
    have ha := List.all_eq_true.mp he.2
    match xs, q, ha with
    | [], q, _ => walk_at "run"; exact q
    | [a], q, _ =>
      have e : fitsR (.tup [a]) = false := by cases a <;> rfl
      rw [e] at q
      exact q
    | a :: b :: c :: r, q, _ =>
      walk_at "run"
      refine if_ndec (fun _ => ?_) (fun z => by simp at z; omega)
      walk_at "run"
      have e : fitsR (.tup (a :: b :: c :: r)) = false := by cases a <;> cases b <;> rfl
      rw [e] at q
      exact q
    | [a, b], q, ha =>
      have h1 := okN_mono (ha a (by simp)) (show 7 ≤ 8 by omega)
      have h2 := okN_mono (ha b (by simp)) (show 7 ≤ 8 by omega)
      walk_at "run"
      refine ⟨h1, ?_⟩
      cases a <;> simp only [okN, Bool.false_eq_true] at h1 <;> simp -dsimp only [isIntD, ↓DL.e_while, ↓DL.e_seq, ↓DL.e_next, ↓DL.e_break, ↓DL.e_cont, ↓DL.e_drop, ↓DL.e_ret, ↓DL.e_retN, ↓DL.e_ifS, ↓DL.e_set, ↓DL.e_own, ↓DL.e_par, ↓DL.e_asg, ↓DL.e_kName, ↓DL.e_kNil, ↓DL.e_kCons, ↓DL.e_kTup, ↓DL.e_for, ↓DL.e_raise, ↓DL.e_try, ↓DL.e_var, ↓DL.e_c, ↓DL.e_op, ↓DL.e_un, ↓DL.e_if, ↓DL.e_andV, ↓DL.e_orV, ↓DL.e_notV, ↓DL.e_chain, ↓DL.e_B, ↓DL.e_and, ↓DL.e_or, ↓DL.e_not, ↓DL.e_yes, ↓DL.e_isi, ↓DL.e_CB, ↓DL.e_nil, ↓DL.e_cons, ↓DL.e_tup, ↓DL.e_fr, ↓DL.e_lst, ↓DL.e_listOf, ↓DL.e_call, ↓DL.e_seqIt, ↓DL.e_ran1, ↓DL.e_ran2, ↓DL.e_comp, ↓DL.e_lenOwn, ↓DL.e_ownM, ↓DL.e_strM, ↓DL.e_split, ↓DL.e_fmt, ↓DL.e_joined, ↓DL.e_js0, ↓DL.e_js, ↓DL.e_noPart, ↓DL.e_part, ↓DL.e_sl, ↓DL.e_xf, ↓DL.e_isE, DL.g_ifT, DL.g_ifF, DL.g_bl, DL.g_int, DL.g_str, DL.g_step, DL.g_some, DL.g_none, DL.g_slst, DL.g_stup, DL.g_sstr, DL.g_sscr, DL.gd_0, DL.gd_s, DL.sd_0, DL.sd_s, DL.g_par, DL.g_tupG, DL.g_vown, DL.g_vval, DL.g_listOft, DL.g_listOfl, DL.g_ran1, DL.g_ran2, DL.wipe_0, DL.wipe_s, DL.g_own, DL.g_append, DL.g_pop, DL.g_joinl, DL.g_joint, DL.g_fmts, DL.g_fmti, DL.g_slt, DL.g_sls, DL.o_int0, DL.o_int, DL.o_addi, DL.o_adds, DL.o_addt, DL.o_addl, DL.o_eqi, DL.o_nei, DL.o_isN, DL.o_notN, DL.o_bl2, DL.o_ixt, DL.o_ixl, DL.o_ixs, DL.o_inss, DL.o_int_, DL.o_inl, DL.l_lent, DL.l_lenl, DL.l_lens, DL.l_abs, DL.l_inti, DL.l_intb, DL.l_str, DL.l_tupt, DL.l_tupl, DL.l_all, DL.l_sum, DL.isB_non, DL.isB_bl, DL.isB_int, DL.isB_str, DL.isB_tup, DL.isB_lst, DL.isN_non, DL.isN_bl, DL.isN_int, DL.isN_str, DL.isN_tup, DL.isN_lst, DL.isN_ins, DL.g_exc, DL.g_gnx, DL.g_grt, DL.g_gbk, DL.g_gct, DL.d_eq1, DL.d_eq0, DL.d_lt1, DL.d_lt0, DL.d_le1, DL.d_le0, DL.at0, DL.at1, DL.at2, DL.at3, DL.at4, DL.at5, DL.kit_nn_int, DL.kit_nn_bool, DL.kit_nn_str, DL.kit_nn_tuple, DL.kit_nn_list, DL.kit_bool_int, DL.kit_bool_bool, DL.kit_bool_str, DL.kit_bool_tuple, DL.kit_bool_list, DL.kit_int_int, DL.kit_int_bool, DL.kit_int_str, DL.kit_int_tuple, DL.kit_int_list, DL.kit_str_int, DL.kit_str_bool, DL.kit_str_str, DL.kit_str_tuple, DL.kit_str_list, DL.kit_tuple_int, DL.kit_tuple_bool, DL.kit_tuple_str, DL.kit_tuple_tuple, DL.kit_tuple_list, DL.kit_list_int, DL.kit_list_bool, DL.kit_list_str, DL.kit_list_tuple, DL.kit_list_list, DL.own_non, DL.own_bl, DL.own_int, DL.own_str, DL.own_tup, DL.own_lst, DL.own_bag, DL.own_scr, DL.own_ins, DL.own_exc, DL.o_eq, DL.o_ne, DL.cmp_int, DL.cmp_bl, DL.cmp_non, DL.eq_int, true_and, and_true, Bool.not_true, Bool.not_false, DL.xcOf, List.length_cons, List.length_nil, DL.startD, List.map_cons, List.map_nil, List.replicate_succ, List.replicate_zero, List.cons_append, List.nil_append, Nat.reduceSub, Nat.reduceAdd, Int.cast_ofNat_Int, Int.natCast_zero, Int.natCast_one, decide_true, decide_false, not_false_eq_true, Int.reduceEq, Int.reduceLT, Int.reduceLE, Int.reduceNeg] <;> (first | exact q | skip)
      rename_i p
      refine ⟨h2, ?_⟩
      cases b <;> simp only [okN, Bool.false_eq_true] at h2 <;> simp -dsimp only [isIntD, ↓DL.e_while, ↓DL.e_seq, ↓DL.e_next, ↓DL.e_break, ↓DL.e_cont, ↓DL.e_drop, ↓DL.e_ret, ↓DL.e_retN, ↓DL.e_ifS, ↓DL.e_set, ↓DL.e_own, ↓DL.e_par, ↓DL.e_asg, ↓DL.e_kName, ↓DL.e_kNil, ↓DL.e_kCons, ↓DL.e_kTup, ↓DL.e_for, ↓DL.e_raise, ↓DL.e_try, ↓DL.e_var, ↓DL.e_c, ↓DL.e_op, ↓DL.e_un, ↓DL.e_if, ↓DL.e_andV, ↓DL.e_orV, ↓DL.e_notV, ↓DL.e_chain, ↓DL.e_B, ↓DL.e_and, ↓DL.e_or, ↓DL.e_not, ↓DL.e_yes, ↓DL.e_isi, ↓DL.e_CB, ↓DL.e_nil, ↓DL.e_cons, ↓DL.e_tup, ↓DL.e_fr, ↓DL.e_lst, ↓DL.e_listOf, ↓DL.e_call, ↓DL.e_seqIt, ↓DL.e_ran1, ↓DL.e_ran2, ↓DL.e_comp, ↓DL.e_lenOwn, ↓DL.e_ownM, ↓DL.e_strM, ↓DL.e_split, ↓DL.e_fmt, ↓DL.e_joined, ↓DL.e_js0, ↓DL.e_js, ↓DL.e_noPart, ↓DL.e_part, ↓DL.e_sl, ↓DL.e_xf, ↓DL.e_isE, DL.g_ifT, DL.g_ifF, DL.g_bl, DL.g_int, DL.g_str, DL.g_step, DL.g_some, DL.g_none, DL.g_slst, DL.g_stup, DL.g_sstr, DL.g_sscr, DL.gd_0, DL.gd_s, DL.sd_0, DL.sd_s, DL.g_par, DL.g_tupG, DL.g_vown, DL.g_vval, DL.g_listOft, DL.g_listOfl, DL.g_ran1, DL.g_ran2, DL.wipe_0, DL.wipe_s, DL.g_own, DL.g_append, DL.g_pop, DL.g_joinl, DL.g_joint, DL.g_fmts, DL.g_fmti, DL.g_slt, DL.g_sls, DL.o_int0, DL.o_int, DL.o_addi, DL.o_adds, DL.o_addt, DL.o_addl, DL.o_eqi, DL.o_nei, DL.o_isN, DL.o_notN, DL.o_bl2, DL.o_ixt, DL.o_ixl, DL.o_ixs, DL.o_inss, DL.o_int_, DL.o_inl, DL.l_lent, DL.l_lenl, DL.l_lens, DL.l_abs, DL.l_inti, DL.l_intb, DL.l_str, DL.l_tupt, DL.l_tupl, DL.l_all, DL.l_sum, DL.isB_non, DL.isB_bl, DL.isB_int, DL.isB_str, DL.isB_tup, DL.isB_lst, DL.isN_non, DL.isN_bl, DL.isN_int, DL.isN_str, DL.isN_tup, DL.isN_lst, DL.isN_ins, DL.g_exc, DL.g_gnx, DL.g_grt, DL.g_gbk, DL.g_gct, DL.d_eq1, DL.d_eq0, DL.d_lt1, DL.d_lt0, DL.d_le1, DL.d_le0, DL.at0, DL.at1, DL.at2, DL.at3, DL.at4, DL.at5, DL.kit_nn_int, DL.kit_nn_bool, DL.kit_nn_str, DL.kit_nn_tuple, DL.kit_nn_list, DL.kit_bool_int, DL.kit_bool_bool, DL.kit_bool_str, DL.kit_bool_tuple, DL.kit_bool_list, DL.kit_int_int, DL.kit_int_bool, DL.kit_int_str, DL.kit_int_tuple, DL.kit_int_list, DL.kit_str_int, DL.kit_str_bool, DL.kit_str_str, DL.kit_str_tuple, DL.kit_str_list, DL.kit_tuple_int, DL.kit_tuple_bool, DL.kit_tuple_str, DL.kit_tuple_tuple, DL.kit_tuple_list, DL.kit_list_int, DL.kit_list_bool, DL.kit_list_str, DL.kit_list_tuple, DL.kit_list_list, DL.own_non, DL.own_bl, DL.own_int, DL.own_str, DL.own_tup, DL.own_lst, DL.own_bag, DL.own_scr, DL.own_ins, DL.own_exc, DL.o_eq, DL.o_ne, DL.cmp_int, DL.cmp_bl, DL.cmp_non, DL.eq_int, true_and, and_true, Bool.not_true, Bool.not_false, DL.xcOf, List.length_cons, List.length_nil, DL.startD, List.map_cons, List.map_nil, List.replicate_succ, List.replicate_zero, List.cons_append, List.nil_append, Nat.reduceSub, Nat.reduceAdd, Int.cast_ofNat_Int, Int.natCast_zero, Int.natCast_one, decide_true, decide_false, not_false_eq_true, Int.reduceEq, Int.reduceLT, Int.reduceLE, Int.reduceNeg] <;> (first | exact q | skip)
      rename_i q2
      rw [fits_int] at q
      refine if_dec (fun z => ?_) (fun z => ?_)
      · walk_at "run"
        rw [decide_eq_false fun x => by omega] at q
        exact q
      walk_at "run"
      refine if_dec (fun z => ?_) (fun z => ?_)
      · walk_at "run"
        rw [decide_eq_false fun x => by omega] at q
        exact q
      walk_at "run"
      refine if_dec (fun z => ?_) (fun z => ?_)
      · walk_at "run"
        rw [decide_eq_false fun x => by omega] at q
        exact q
      walk_at "run"
      refine if_dec (fun z => ?_) (fun z => ?_)
      · walk_at "run"
        rw [decide_eq_false fun x => by omega] at q
        exact q
      walk_at "run"
      refine ⟨abs_nn, by omega, ?_⟩
      rw [gcdI_abs]
      walk_at "run"
      have e : decide ((-999 ≤ p ∧ p ≤ 999) ∧ (1 ≤ q2 ∧ q2 ≤ 99) ∧ gcdI p q2 = 1) = decide (gcdI p q2 = 1) := decide_eq_decide.mpr ⟨fun x => x.2.2, fun x => ⟨by omega, by omega, x⟩⟩
      rw [e] at q
      exact q
/-! ### the last time round -/
abbrev never : SpD := fun _ _ _ => False
theorem rd_ratio0 {ds Q X} (h : sp_ratio0 ds Q X) : t_ratio never X (endD Q) (startD 3 ds) := by
  match ds, h with
  | [.int t, .int b], ⟨hb, h2, q1⟩ =>
    (unfold t_ratio; walk_at "run")
    refine if_dec (fun h0 => by omega) (fun h0 => ?_)
    walk_at "run"
    refine if_dec (fun h1 => by omega) (fun h1 => ?_)
    walk_at "run"
    obtain ⟨d1, d2⟩ := gcd_div (t := t) h2 hb
    refine ⟨abs_nn, by omega, ?_⟩
    rw [gcdI_abs]
    walk_at "run"
    exact ⟨d1, d2, by decide, q1⟩
theorem rd_deep0 {ds Q X} (h : sp_deep 0 ds Q X) : t_deep never X (endD Q) (startD 2 ds) := by
  match ds, h with
  | [d], ⟨h, q⟩ => cases d <;> simp only [okN, Bool.false_eq_true, Bool.and_eq_true, decide_eq_true_eq] at h <;> simp -dsimp only [t_deep, isB2, Bool.or_false, Bool.or_true, Bool.true_or, ↓DL.e_while, ↓DL.e_seq, ↓DL.e_next, ↓DL.e_break, ↓DL.e_cont, ↓DL.e_drop, ↓DL.e_ret, ↓DL.e_retN, ↓DL.e_ifS, ↓DL.e_set, ↓DL.e_own, ↓DL.e_par, ↓DL.e_asg, ↓DL.e_kName, ↓DL.e_kNil, ↓DL.e_kCons, ↓DL.e_kTup, ↓DL.e_for, ↓DL.e_raise, ↓DL.e_try, ↓DL.e_var, ↓DL.e_c, ↓DL.e_op, ↓DL.e_un, ↓DL.e_if, ↓DL.e_andV, ↓DL.e_orV, ↓DL.e_notV, ↓DL.e_chain, ↓DL.e_B, ↓DL.e_and, ↓DL.e_or, ↓DL.e_not, ↓DL.e_yes, ↓DL.e_isi, ↓DL.e_CB, ↓DL.e_nil, ↓DL.e_cons, ↓DL.e_tup, ↓DL.e_fr, ↓DL.e_lst, ↓DL.e_listOf, ↓DL.e_call, ↓DL.e_seqIt, ↓DL.e_ran1, ↓DL.e_ran2, ↓DL.e_comp, ↓DL.e_lenOwn, ↓DL.e_ownM, ↓DL.e_strM, ↓DL.e_split, ↓DL.e_fmt, ↓DL.e_joined, ↓DL.e_js0, ↓DL.e_js, ↓DL.e_noPart, ↓DL.e_part, ↓DL.e_sl, ↓DL.e_xf, ↓DL.e_isE, DL.g_ifT, DL.g_ifF, DL.g_bl, DL.g_int, DL.g_str, DL.g_step, DL.g_some, DL.g_none, DL.g_slst, DL.g_stup, DL.g_sstr, DL.g_sscr, DL.gd_0, DL.gd_s, DL.sd_0, DL.sd_s, DL.g_par, DL.g_tupG, DL.g_vown, DL.g_vval, DL.g_listOft, DL.g_listOfl, DL.g_ran1, DL.g_ran2, DL.wipe_0, DL.wipe_s, DL.g_own, DL.g_append, DL.g_pop, DL.g_joinl, DL.g_joint, DL.g_fmts, DL.g_fmti, DL.g_slt, DL.g_sls, DL.o_int0, DL.o_int, DL.o_addi, DL.o_adds, DL.o_addt, DL.o_addl, DL.o_eqi, DL.o_nei, DL.o_isN, DL.o_notN, DL.o_bl2, DL.o_ixt, DL.o_ixl, DL.o_ixs, DL.o_inss, DL.o_int_, DL.o_inl, DL.l_lent, DL.l_lenl, DL.l_lens, DL.l_abs, DL.l_inti, DL.l_intb, DL.l_str, DL.l_tupt, DL.l_tupl, DL.l_all, DL.l_sum, DL.isB_non, DL.isB_bl, DL.isB_int, DL.isB_str, DL.isB_tup, DL.isB_lst, DL.isN_non, DL.isN_bl, DL.isN_int, DL.isN_str, DL.isN_tup, DL.isN_lst, DL.isN_ins, DL.g_exc, DL.g_gnx, DL.g_grt, DL.g_gbk, DL.g_gct, DL.d_eq1, DL.d_eq0, DL.d_lt1, DL.d_lt0, DL.d_le1, DL.d_le0, DL.at0, DL.at1, DL.at2, DL.at3, DL.at4, DL.at5, DL.kit_nn_int, DL.kit_nn_bool, DL.kit_nn_str, DL.kit_nn_tuple, DL.kit_nn_list, DL.kit_bool_int, DL.kit_bool_bool, DL.kit_bool_str, DL.kit_bool_tuple, DL.kit_bool_list, DL.kit_int_int, DL.kit_int_bool, DL.kit_int_str, DL.kit_int_tuple, DL.kit_int_list, DL.kit_str_int, DL.kit_str_bool, DL.kit_str_str, DL.kit_str_tuple, DL.kit_str_list, DL.kit_tuple_int, DL.kit_tuple_bool, DL.kit_tuple_str, DL.kit_tuple_tuple, DL.kit_tuple_list, DL.kit_list_int, DL.kit_list_bool, DL.kit_list_str, DL.kit_list_tuple, DL.kit_list_list, DL.own_non, DL.own_bl, DL.own_int, DL.own_str, DL.own_tup, DL.own_lst, DL.own_bag, DL.own_scr, DL.own_ins, DL.own_exc, DL.o_eq, DL.o_ne, DL.cmp_int, DL.cmp_bl, DL.cmp_non, DL.eq_int, true_and, and_true, Bool.not_true, Bool.not_false, DL.xcOf, List.length_cons, List.length_nil, DL.startD, List.map_cons, List.map_nil, List.replicate_succ, List.replicate_zero, List.cons_append, List.nil_append, Nat.reduceSub, Nat.reduceAdd, Int.cast_ofNat_Int, Int.natCast_zero, Int.natCast_one, decide_true, decide_false, not_false_eq_true, Int.reduceEq, Int.reduceLT, Int.reduceLE, Int.reduceNeg] <;> exact q
theorem rd__law_tuples0 {ds Q X} (h : sp__law_tuples 0 ds Q X) : t__law_tuples never X (endD Q) (startD 2 ds) := by
  match ds, h with
  | [d], ⟨h, q⟩ => cases d <;> simp only [okN, Bool.false_eq_true, Bool.and_eq_true, decide_eq_true_eq] at h <;> (unfold t__law_tuples; walk_at "run") <;> exact q
theorem rd__law_lists0 {ds Q X} (h : sp__law_lists 0 ds Q X) : t__law_lists never X (endD Q) (startD 2 ds) := by
  match ds, h with
  | [d], ⟨h, q⟩ => cases d <;> simp only [okN, Bool.false_eq_true, Bool.and_eq_true, decide_eq_true_eq] at h <;> (unfold t__law_lists; walk_at "run") <;> exact q
theorem rd__law_plain0 {ds Q X} (h : sp__law_plain 0 ds Q X) : t__law_plain never X (endD Q) (startD 2 ds) := by
  match ds, h with
  | [d], ⟨h, q⟩ =>
    have h8 := okN_mono h (show 0 ≤ 8 by omega)
    cases d <;> simp only [okN, Bool.false_eq_true, Bool.and_eq_true, decide_eq_true_eq] at h <;> (unfold t__law_plain; walk_at "run") <;> first | exact q | exact ⟨h8, q⟩
end K01

set_option Elab.async false
set_option linter.all false
set_option maxRecDepth 100000
set_option maxHeartbeats 4000000
/-! K01s: the readings keep the promises, two. -/
namespace K01
open PySem PySem.Spec L2 DL
theorem rd__law_choice {ds Q X} (h : sp__law_choice ds Q X) : t__law_choice X (endD Q) (startD 2 ds) := by
  match ds, h with
  | [.bag, .lst xs], ⟨h0, h1, q⟩ =>
    (unfold t__law_choice; walk_at "run")
    have hp : 0 < xs.length := List.length_pos_iff.mpr h0
    refine ⟨by omega, ?_, fun r r0 r1 => ?_⟩
    · rw [Nat.log2_lt (by omega)]
      exact Nat.lt_of_le_of_lt (show (xs.length : Int).natAbs ≤ 1000 by omega) (Nat.lt_of_lt_of_le (show 1000 < 2 ^ 10 by decide) (Nat.pow_le_pow_right (by decide) (by decide)))
    obtain ⟨n, rfl⟩ : ∃ n : Nat, r = n := ⟨r.toNat, by omega⟩
    have hn : n < xs.length := by omega
    walk_at "run"
    rw [at_nat hn, List.getElem?_eq_getElem hn]
    exact q _ (List.getElem_mem hn)
theorem rd__law_one_in {ds Q X} (h : sp__law_one_in ds Q X) : t__law_one_in X (endD Q) (startD 2 ds) := by
  match ds, h with
  | [.bag, .int m], ⟨h0, h1, q⟩ =>
    (unfold t__law_one_in; walk_at "run")
    refine ⟨h0, ?_, fun r r0 r1 => ?_⟩
    · rw [Nat.log2_lt (by omega)]
      exact Nat.lt_of_le_of_lt (show m.natAbs ≤ 1000 by omega) (Nat.lt_of_lt_of_le (show 1000 < 2 ^ 10 by decide) (Nat.pow_le_pow_right (by decide) (by decide)))
    walk_at "run"
    exact q _
theorem log_small {n : Nat} (h : n ≤ 10 ^ 40) : n.log2 < 9000 := by
  by_cases h0 : n = 0
  · subst h0; decide
  rw [Nat.log2_lt h0]
  exact Nat.lt_of_le_of_lt h (Nat.lt_of_lt_of_le (show 10 ^ 40 < 2 ^ 200 by decide) (Nat.pow_le_pow_right (by decide) (by decide)))
theorem rd__law_truth {ds Q X} (h : sp__law_truth ds Q X) : t__law_truth X (endD Q) (startD 2 ds) := by
  match ds, h with
  | [.bl x, .bl y], q =>
    (unfold t__law_truth; walk_at "run")
    exact q
theorem pows : (10 : Int) ^ (9 : Int).toNat = 1000000000 ∧ (10 : Int) ^ (39 : Int).toNat = 10 ^ 39 := ⟨by decide, by decide⟩
theorem rd__law_number_of {ds Q X} (h : sp__law_number_of ds Q X) : t__law_number_of X (endD Q) (startD 3 ds) := by
  match ds, h with
  | [.bag, .int size], ⟨h0, h1, q⟩ =>
    (unfold t__law_number_of; walk_at "run")
    refine ⟨⟨by decide, by decide, by decide⟩, ⟨by decide, by decide, by decide⟩, by decide, ?_⟩
    have key : ∀ m : Int, 0 < m → m ≤ 10 ^ 39 + 1 → dSeq (dSet 2 (dC (.int m))) (dRet (dOp rSub (dCall sp__law_pick (xcOf X) (dCons (dVar 0) (dCons (dVar 2) (dNil)))) (dCall sp__law_pick (xcOf X) (dCons (dVar 0) (dCons (dVar 2) (dNil)))))) (endD Q) [some .bag, some (.int size), none] := by
      intro m m0 m1
      walk_at "run"
      refine ⟨m0, log_small (by omega), fun r r0 r1 => ?_⟩
      walk_at "run"
      refine ⟨m0, log_small (by omega), fun r' r0' r1' => ?_⟩
      walk_at "run"
      exact q _ (by omega)
    have e : size = 0 ∨ size = 1 ∨ size = 2 ∨ size = 3 := by omega
    rcases e with rfl | rfl | rfl | rfl
    · exact key 13 (by decide) (by decide)
    · exact key 1000 (by decide) (by decide)
    · exact key _ (by decide) (by decide)
    · exact key _ (by decide) (by decide)
theorem rd__law_drawn {ds Q X} (h : sp__law_drawn ds Q X) : t__law_drawn X (endD Q) (startD 3 ds) := by
  match ds, h with
  | [.bag, .int size], ⟨h0, h1, q⟩ =>
    (unfold t__law_drawn; walk_at "run")
    refine ⟨h0, h1, fun t ht => ?_⟩
    walk_at "run"
    refine ⟨⟨by decide, by decide, by decide⟩, ⟨by decide, by decide, by decide⟩, by decide, ?_⟩
    have key : ∀ m : Int, 0 < m → m ≤ 10 ^ 39 → callD sp__law_pick [.bag, .int m] (fun d => dOp rAdd (dC (.int 1)) (dC d) [some .bag, some (.int size), some (.int t)] fun b s1 => callD sp__law_ratio [.int t, b] Q X) X := by
      intro m m0 m1
      refine ⟨m0, log_small (by omega), fun r r0 r1 => ?_⟩
      walk_at "run"
      refine ⟨?_, by omega, ?_⟩
      · exact Nat.lt_of_le_of_lt (show (1 + r).natAbs ≤ 10 ^ 39 by omega) (Nat.lt_of_lt_of_le (show 10 ^ 39 < 2 ^ 200 by decide) (Nat.pow_le_pow_right (by decide) (by decide)))
      · obtain ⟨p, q', e, q0, c, _, l1, l2⟩ := rOf_is (t := t) (b := 1 + r) (by omega)
        exact q _ p q' ⟨e, q0, by omega, by omega, c⟩
    have e : size = 0 ∨ size = 1 ∨ size = 2 ∨ size = 3 := by omega
    rcases e with rfl | rfl | rfl | rfl
    · exact key 12 (by decide) (by decide)
    · exact key 99 (by decide) (by decide)
    · exact key _ (by decide) (by decide)
    · exact key _ (by decide) (by decide)
theorem le_line {n : Nat} (h : n ≤ 10000) : n ≤ sizeLine := Nat.le_trans h (by decide)
theorem m_BR : m_BadRatio "BadRatio" = some true := by simp [m_BadRatio, only]
theorem is_SE : is_StrawError "BadRatio" = some true := by simp [is_StrawError, only]
theorem is_VE : is_ValueError "BadRatio" = some true := by simp [is_ValueError, only]
theorem is_BF : is_BadFace "BadRatio" = some false := by simp [is_BadFace, only]
theorem rd__law_made {ds Q X} (h : sp__law_made ds Q X) : t__law_made X (endD Q) (startD 5 ds) := by
  match ds, h with
  | [.int t, .int l], ⟨hb, q⟩ =>
    (unfold t__law_made; walk_at "run")
    unfold madeD at q
    refine ⟨hb, fun h0 => ?_, fun h1 => ?_, fun h1 => ?_⟩
    · subst h0
      rw [x_named m_BR]
      intro a C dx
      simp -dsimp only [is_SE, is_VE, is_BF, List.getElem?_cons_zero, List.getElem?_cons_succ, ↓DL.e_while, ↓DL.e_seq, ↓DL.e_next, ↓DL.e_break, ↓DL.e_cont, ↓DL.e_drop, ↓DL.e_ret, ↓DL.e_retN, ↓DL.e_ifS, ↓DL.e_set, ↓DL.e_own, ↓DL.e_par, ↓DL.e_asg, ↓DL.e_kName, ↓DL.e_kNil, ↓DL.e_kCons, ↓DL.e_kTup, ↓DL.e_for, ↓DL.e_raise, ↓DL.e_try, ↓DL.e_var, ↓DL.e_c, ↓DL.e_op, ↓DL.e_un, ↓DL.e_if, ↓DL.e_andV, ↓DL.e_orV, ↓DL.e_notV, ↓DL.e_chain, ↓DL.e_B, ↓DL.e_and, ↓DL.e_or, ↓DL.e_not, ↓DL.e_yes, ↓DL.e_isi, ↓DL.e_CB, ↓DL.e_nil, ↓DL.e_cons, ↓DL.e_tup, ↓DL.e_fr, ↓DL.e_lst, ↓DL.e_listOf, ↓DL.e_call, ↓DL.e_seqIt, ↓DL.e_ran1, ↓DL.e_ran2, ↓DL.e_comp, ↓DL.e_lenOwn, ↓DL.e_ownM, ↓DL.e_strM, ↓DL.e_split, ↓DL.e_fmt, ↓DL.e_joined, ↓DL.e_js0, ↓DL.e_js, ↓DL.e_noPart, ↓DL.e_part, ↓DL.e_sl, ↓DL.e_xf, ↓DL.e_isE, DL.g_ifT, DL.g_ifF, DL.g_bl, DL.g_int, DL.g_str, DL.g_step, DL.g_some, DL.g_none, DL.g_slst, DL.g_stup, DL.g_sstr, DL.g_sscr, DL.gd_0, DL.gd_s, DL.sd_0, DL.sd_s, DL.g_par, DL.g_tupG, DL.g_vown, DL.g_vval, DL.g_listOft, DL.g_listOfl, DL.g_ran1, DL.g_ran2, DL.wipe_0, DL.wipe_s, DL.g_own, DL.g_append, DL.g_pop, DL.g_joinl, DL.g_joint, DL.g_fmts, DL.g_fmti, DL.g_slt, DL.g_sls, DL.o_int0, DL.o_int, DL.o_addi, DL.o_adds, DL.o_addt, DL.o_addl, DL.o_eqi, DL.o_nei, DL.o_isN, DL.o_notN, DL.o_bl2, DL.o_ixt, DL.o_ixl, DL.o_ixs, DL.o_inss, DL.o_int_, DL.o_inl, DL.l_lent, DL.l_lenl, DL.l_lens, DL.l_abs, DL.l_inti, DL.l_intb, DL.l_str, DL.l_tupt, DL.l_tupl, DL.l_all, DL.l_sum, DL.isB_non, DL.isB_bl, DL.isB_int, DL.isB_str, DL.isB_tup, DL.isB_lst, DL.isN_non, DL.isN_bl, DL.isN_int, DL.isN_str, DL.isN_tup, DL.isN_lst, DL.isN_ins, DL.g_exc, DL.g_gnx, DL.g_grt, DL.g_gbk, DL.g_gct, DL.d_eq1, DL.d_eq0, DL.d_lt1, DL.d_lt0, DL.d_le1, DL.d_le0, DL.at0, DL.at1, DL.at2, DL.at3, DL.at4, DL.at5, DL.kit_nn_int, DL.kit_nn_bool, DL.kit_nn_str, DL.kit_nn_tuple, DL.kit_nn_list, DL.kit_bool_int, DL.kit_bool_bool, DL.kit_bool_str, DL.kit_bool_tuple, DL.kit_bool_list, DL.kit_int_int, DL.kit_int_bool, DL.kit_int_str, DL.kit_int_tuple, DL.kit_int_list, DL.kit_str_int, DL.kit_str_bool, DL.kit_str_str, DL.kit_str_tuple, DL.kit_str_list, DL.kit_tuple_int, DL.kit_tuple_bool, DL.kit_tuple_str, DL.kit_tuple_tuple, DL.kit_tuple_list, DL.kit_list_int, DL.kit_list_bool, DL.kit_list_str, DL.kit_list_tuple, DL.kit_list_list, DL.own_non, DL.own_bl, DL.own_int, DL.own_str, DL.own_tup, DL.own_lst, DL.own_bag, DL.own_scr, DL.own_ins, DL.own_exc, DL.o_eq, DL.o_ne, DL.cmp_int, DL.cmp_bl, DL.cmp_non, DL.eq_int, true_and, and_true, Bool.not_true, Bool.not_false, DL.xcOf, List.length_cons, List.length_nil, DL.startD, List.map_cons, List.map_nil, List.replicate_succ, List.replicate_zero, List.cons_append, List.nil_append, Nat.reduceSub, Nat.reduceAdd, Int.cast_ofNat_Int, Int.natCast_zero, Int.natCast_one, decide_true, decide_false, not_false_eq_true, Int.reduceEq, Int.reduceLT, Int.reduceLE, Int.reduceNeg]
      exact ⟨le_line (n := 4) (by decide), q⟩
    · rw [if_neg (by omega), if_pos h1] at q
      walk_at "run"
      exact ⟨le_line (n := 4) (by decide), q⟩
    · rw [if_neg (by omega), if_neg (by omega)] at q
      walk_at "run"
      exact ⟨le_line (n := 4) (by decide), q⟩
theorem rd__law_reserved {ds Q X} (h : sp__law_reserved ds Q X) : t__law_reserved X (endD Q) (startD 1 ds) := by
  match ds, h with
  | [], q =>
    (unfold t__law_reserved; walk_at "run")
    refine ⟨by decide +kernel, ⟨by decide +kernel, by decide +kernel, by decide +kernel⟩, ?_⟩
    have e : Txt.split ("ask bar add coin near dear low span least few all not both either made face within there close many offer " ++ "day back object rule house first last cheapest stands falls nobody" : Str) " " = reserved := by decide +kernel
    rw [e]
    exact q
theorem perm_erase : ∀ {xs : List D} {i : Nat} {y : D}, xs[i]? = some y → (y :: xs.eraseIdx i).Perm xs
  | [], i, y, h => by simp at h
  | x :: xs, 0, y, h => by
    simp at h
    subst h
    exact List.Perm.refl _
  | x :: xs, i + 1, y, h => by
    have ih := perm_erase (xs := xs) (i := i) (y := y) (by simpa using h)
    exact (List.Perm.swap x y _).trans (List.Perm.cons x ih)
theorem shuffle_loop {X : Str → List D → Prop} {R : Endd} {d : Option D} {e : Option D} {xs : List D} (k : ∀ ys z, ys.Perm xs → R.nx [some .bag, d, some (.own []), some (.own ys), z]) (hx : xs.length ≤ 1000) : ∀ (n : Nat) (lo : Int) (rest row : List D) (z : Option D), rest.length = n → (row ++ rest).Perm xs →
    loopD (kName 4) (dDrop (dOwnM 3 fAppend (dOwnM 2 fPop (dCall sp__law_pick (xcOf X) (dCons (dVar 0) (dCons (dLenOwn 2) (dNil))))))) R ((List.range n).map fun (i : Nat) => .int (lo + i)) [some .bag, d, some (.own rest), some (.own row), z] := by
  intro n
  induction n with
  | zero =>
    intro lo rest row z hn hp
    have : rest = [] := List.eq_nil_of_length_eq_zero hn
    subst this
    rw [List.append_nil] at hp
    exact k row z hp
  | succ n ih =>
    intro lo rest row z hn hp
    have hlen := hp.length_eq
    rw [List.length_append] at hlen
    rw [List.range_succ_eq_map, List.map_cons, List.map_map]
    simp -dsimp only [loopD, ↓DL.e_while, ↓DL.e_seq, ↓DL.e_next, ↓DL.e_break, ↓DL.e_cont, ↓DL.e_drop, ↓DL.e_ret, ↓DL.e_retN, ↓DL.e_ifS, ↓DL.e_set, ↓DL.e_own, ↓DL.e_par, ↓DL.e_asg, ↓DL.e_kName, ↓DL.e_kNil, ↓DL.e_kCons, ↓DL.e_kTup, ↓DL.e_for, ↓DL.e_raise, ↓DL.e_try, ↓DL.e_var, ↓DL.e_c, ↓DL.e_op, ↓DL.e_un, ↓DL.e_if, ↓DL.e_andV, ↓DL.e_orV, ↓DL.e_notV, ↓DL.e_chain, ↓DL.e_B, ↓DL.e_and, ↓DL.e_or, ↓DL.e_not, ↓DL.e_yes, ↓DL.e_isi, ↓DL.e_CB, ↓DL.e_nil, ↓DL.e_cons, ↓DL.e_tup, ↓DL.e_fr, ↓DL.e_lst, ↓DL.e_listOf, ↓DL.e_call, ↓DL.e_seqIt, ↓DL.e_ran1, ↓DL.e_ran2, ↓DL.e_comp, ↓DL.e_lenOwn, ↓DL.e_ownM, ↓DL.e_strM, ↓DL.e_split, ↓DL.e_fmt, ↓DL.e_joined, ↓DL.e_js0, ↓DL.e_js, ↓DL.e_noPart, ↓DL.e_part, ↓DL.e_sl, ↓DL.e_xf, ↓DL.e_isE, DL.g_ifT, DL.g_ifF, DL.g_bl, DL.g_int, DL.g_str, DL.g_step, DL.g_some, DL.g_none, DL.g_slst, DL.g_stup, DL.g_sstr, DL.g_sscr, DL.gd_0, DL.gd_s, DL.sd_0, DL.sd_s, DL.g_par, DL.g_tupG, DL.g_vown, DL.g_vval, DL.g_listOft, DL.g_listOfl, DL.g_ran1, DL.g_ran2, DL.wipe_0, DL.wipe_s, DL.g_own, DL.g_append, DL.g_pop, DL.g_joinl, DL.g_joint, DL.g_fmts, DL.g_fmti, DL.g_slt, DL.g_sls, DL.o_int0, DL.o_int, DL.o_addi, DL.o_adds, DL.o_addt, DL.o_addl, DL.o_eqi, DL.o_nei, DL.o_isN, DL.o_notN, DL.o_bl2, DL.o_ixt, DL.o_ixl, DL.o_ixs, DL.o_inss, DL.o_int_, DL.o_inl, DL.l_lent, DL.l_lenl, DL.l_lens, DL.l_abs, DL.l_inti, DL.l_intb, DL.l_str, DL.l_tupt, DL.l_tupl, DL.l_all, DL.l_sum, DL.isB_non, DL.isB_bl, DL.isB_int, DL.isB_str, DL.isB_tup, DL.isB_lst, DL.isN_non, DL.isN_bl, DL.isN_int, DL.isN_str, DL.isN_tup, DL.isN_lst, DL.isN_ins, DL.g_exc, DL.g_gnx, DL.g_grt, DL.g_gbk, DL.g_gct, DL.d_eq1, DL.d_eq0, DL.d_lt1, DL.d_lt0, DL.d_le1, DL.d_le0, DL.at0, DL.at1, DL.at2, DL.at3, DL.at4, DL.at5, DL.kit_nn_int, DL.kit_nn_bool, DL.kit_nn_str, DL.kit_nn_tuple, DL.kit_nn_list, DL.kit_bool_int, DL.kit_bool_bool, DL.kit_bool_str, DL.kit_bool_tuple, DL.kit_bool_list, DL.kit_int_int, DL.kit_int_bool, DL.kit_int_str, DL.kit_int_tuple, DL.kit_int_list, DL.kit_str_int, DL.kit_str_bool, DL.kit_str_str, DL.kit_str_tuple, DL.kit_str_list, DL.kit_tuple_int, DL.kit_tuple_bool, DL.kit_tuple_str, DL.kit_tuple_tuple, DL.kit_tuple_list, DL.kit_list_int, DL.kit_list_bool, DL.kit_list_str, DL.kit_list_tuple, DL.kit_list_list, DL.own_non, DL.own_bl, DL.own_int, DL.own_str, DL.own_tup, DL.own_lst, DL.own_bag, DL.own_scr, DL.own_ins, DL.own_exc, DL.o_eq, DL.o_ne, DL.cmp_int, DL.cmp_bl, DL.cmp_non, DL.eq_int, true_and, and_true, Bool.not_true, Bool.not_false, DL.xcOf, List.length_cons, List.length_nil, DL.startD, List.map_cons, List.map_nil, List.replicate_succ, List.replicate_zero, List.cons_append, List.nil_append, Nat.reduceSub, Nat.reduceAdd, Int.cast_ofNat_Int, Int.natCast_zero, Int.natCast_one, decide_true, decide_false, not_false_eq_true, Int.reduceEq, Int.reduceLT, Int.reduceLE, Int.reduceNeg]
    refine ⟨by omega, log_small (by have : (rest.length : Int).natAbs ≤ 1000 := by omega
                                    exact Nat.le_trans this (by decide)), fun r r0 r1 => ?_⟩
    obtain ⟨m, rfl⟩ : ∃ m : Nat, r = m := ⟨r.toNat, by omega⟩
    have hm : m < rest.length := by omega
    have e1 : seqIndex? (m : Int) rest.length = some m := by
      unfold seqIndex?
      simp
      omega
    have e2 : rest[m]? = some rest[m] := List.getElem?_eq_getElem hm
    simp -dsimp only [e1, e2, ↓DL.e_while, ↓DL.e_seq, ↓DL.e_next, ↓DL.e_break, ↓DL.e_cont, ↓DL.e_drop, ↓DL.e_ret, ↓DL.e_retN, ↓DL.e_ifS, ↓DL.e_set, ↓DL.e_own, ↓DL.e_par, ↓DL.e_asg, ↓DL.e_kName, ↓DL.e_kNil, ↓DL.e_kCons, ↓DL.e_kTup, ↓DL.e_for, ↓DL.e_raise, ↓DL.e_try, ↓DL.e_var, ↓DL.e_c, ↓DL.e_op, ↓DL.e_un, ↓DL.e_if, ↓DL.e_andV, ↓DL.e_orV, ↓DL.e_notV, ↓DL.e_chain, ↓DL.e_B, ↓DL.e_and, ↓DL.e_or, ↓DL.e_not, ↓DL.e_yes, ↓DL.e_isi, ↓DL.e_CB, ↓DL.e_nil, ↓DL.e_cons, ↓DL.e_tup, ↓DL.e_fr, ↓DL.e_lst, ↓DL.e_listOf, ↓DL.e_call, ↓DL.e_seqIt, ↓DL.e_ran1, ↓DL.e_ran2, ↓DL.e_comp, ↓DL.e_lenOwn, ↓DL.e_ownM, ↓DL.e_strM, ↓DL.e_split, ↓DL.e_fmt, ↓DL.e_joined, ↓DL.e_js0, ↓DL.e_js, ↓DL.e_noPart, ↓DL.e_part, ↓DL.e_sl, ↓DL.e_xf, ↓DL.e_isE, DL.g_ifT, DL.g_ifF, DL.g_bl, DL.g_int, DL.g_str, DL.g_step, DL.g_some, DL.g_none, DL.g_slst, DL.g_stup, DL.g_sstr, DL.g_sscr, DL.gd_0, DL.gd_s, DL.sd_0, DL.sd_s, DL.g_par, DL.g_tupG, DL.g_vown, DL.g_vval, DL.g_listOft, DL.g_listOfl, DL.g_ran1, DL.g_ran2, DL.wipe_0, DL.wipe_s, DL.g_own, DL.g_append, DL.g_pop, DL.g_joinl, DL.g_joint, DL.g_fmts, DL.g_fmti, DL.g_slt, DL.g_sls, DL.o_int0, DL.o_int, DL.o_addi, DL.o_adds, DL.o_addt, DL.o_addl, DL.o_eqi, DL.o_nei, DL.o_isN, DL.o_notN, DL.o_bl2, DL.o_ixt, DL.o_ixl, DL.o_ixs, DL.o_inss, DL.o_int_, DL.o_inl, DL.l_lent, DL.l_lenl, DL.l_lens, DL.l_abs, DL.l_inti, DL.l_intb, DL.l_str, DL.l_tupt, DL.l_tupl, DL.l_all, DL.l_sum, DL.isB_non, DL.isB_bl, DL.isB_int, DL.isB_str, DL.isB_tup, DL.isB_lst, DL.isN_non, DL.isN_bl, DL.isN_int, DL.isN_str, DL.isN_tup, DL.isN_lst, DL.isN_ins, DL.g_exc, DL.g_gnx, DL.g_grt, DL.g_gbk, DL.g_gct, DL.d_eq1, DL.d_eq0, DL.d_lt1, DL.d_lt0, DL.d_le1, DL.d_le0, DL.at0, DL.at1, DL.at2, DL.at3, DL.at4, DL.at5, DL.kit_nn_int, DL.kit_nn_bool, DL.kit_nn_str, DL.kit_nn_tuple, DL.kit_nn_list, DL.kit_bool_int, DL.kit_bool_bool, DL.kit_bool_str, DL.kit_bool_tuple, DL.kit_bool_list, DL.kit_int_int, DL.kit_int_bool, DL.kit_int_str, DL.kit_int_tuple, DL.kit_int_list, DL.kit_str_int, DL.kit_str_bool, DL.kit_str_str, DL.kit_str_tuple, DL.kit_str_list, DL.kit_tuple_int, DL.kit_tuple_bool, DL.kit_tuple_str, DL.kit_tuple_tuple, DL.kit_tuple_list, DL.kit_list_int, DL.kit_list_bool, DL.kit_list_str, DL.kit_list_tuple, DL.kit_list_list, DL.own_non, DL.own_bl, DL.own_int, DL.own_str, DL.own_tup, DL.own_lst, DL.own_bag, DL.own_scr, DL.own_ins, DL.own_exc, DL.o_eq, DL.o_ne, DL.cmp_int, DL.cmp_bl, DL.cmp_non, DL.eq_int, true_and, and_true, Bool.not_true, Bool.not_false, DL.xcOf, List.length_cons, List.length_nil, DL.startD, List.map_cons, List.map_nil, List.replicate_succ, List.replicate_zero, List.cons_append, List.nil_append, Nat.reduceSub, Nat.reduceAdd, Int.cast_ofNat_Int, Int.natCast_zero, Int.natCast_one, decide_true, decide_false, not_false_eq_true, Int.reduceEq, Int.reduceLT, Int.reduceLE, Int.reduceNeg]
    refine ⟨⟨by omega, by omega⟩, Nat.lt_of_le_of_lt (show row.length ≤ 1000 by omega) (by decide), ?_⟩
    have ih' := ih (lo + 1) (rest.eraseIdx m) (row ++ [rest[m]]) (some (.int (lo + (0 : Nat)))) (by rw [List.length_eraseIdx_of_lt hm]; omega) ?_
    · have ef : ((fun i : Nat => D.int (lo + i)) ∘ Nat.succ) = fun i : Nat => D.int (lo + 1 + i) := by
        funext i
        show D.int (lo + ((i + 1 : Nat) : Int)) = _
        congr 1
        omega
      rw [ef]
      exact ih'
    · refine List.Perm.trans ?_ hp
      rw [List.append_assoc]
      exact List.Perm.append_left _ (perm_erase e2)
theorem rd__law_shuffled {ds Q X} (h : sp__law_shuffled ds Q X) : t__law_shuffled X (endD Q) (startD 5 ds) := by
  match ds, h with
  | [.bag, .lst xs], ⟨h0, q⟩ =>
    (unfold t__law_shuffled; walk_at "run")
    refine ⟨Nat.zero_le _, ⟨by omega, by omega⟩, ?_⟩
    unfold intsD
    refine shuffle_loop (xs := xs) (e := none) (fun ys z hp => ?_) h0 _ 0 xs [] none (by simp) (List.Perm.refl _)
    walk_at "run"
    exact q ys hp
theorem signs_one {z : Str} {x : D} (h : x ∈ signs z) : ∃ c, x = .str ⟨#[c]⟩ := by
  unfold signs at h
  obtain ⟨c, _, rfl⟩ := List.mem_map.mp h
  exact ⟨c, rfl⟩
theorem signs_len {z : Str} : (signs z).length = z.length := by
  unfold signs
  simp [Str.length]
def inL : D → Bool := fun c => match c with | .str y => strIn y letters | _ => false
theorem asBls_map {f : D → Bool} : ∀ xs : List D, asBls (xs.map fun x => .bl (f x)) = some (xs.map f)
  | [] => rfl
  | x :: xs => by
    rw [List.map_cons, asBls, asBls_map xs]; rfl
theorem in_strs {x : Str} : ∀ ys : List Str, inB (.str x) (ys.map .str) = ys.contains x
  | [] => rfl
  | y :: ys => by
    have ih := in_strs (x := x) ys
    unfold inB at ih ⊢
    rw [List.map_cons, List.any_cons, List.contains_cons, ih]
    show ((y == x) || _) = ((x == y) || _)
    rw [BEq.comm]
theorem cmp_words : cmpOk (.tup (reserved.map .str)) := ⟨by decide +kernel, by decide +kernel⟩
theorem cmp_wordsl : cmpOk (.lst (reserved.map .str)) := ⟨by decide +kernel, by decide +kernel⟩
theorem rd_is_name {ds Q X} (h : sp_is_name ds Q X) : t_is_name X (endD Q) (startD 2 ds) := by
  match ds, h with
  | [d], ⟨h, q⟩ =>
    have h8 := h
    cases d <;> simp only [okN, Bool.false_eq_true, Bool.and_eq_true, decide_eq_true_eq] at h <;> (unfold t_is_name; walk_at "run") <;> (first | exact q | skip)
    rename_i x
    have e : fitsN (.str x) = (decide (1 ≤ x.length) && decide (x.length ≤ 8) && !(reserved.contains x) && (signs x).all inL) := rfl
    rw [e] at q
    refine ⟨le_line (by omega), ?_⟩
    refine if_dec (fun h1 => ?_) (fun h1 => ?_)
    · walk_at "run"
      refine if_ndec (fun h2 => ?_) (fun h2 => ?_)
      · walk_at "run"
        rw [decide_eq_false (p := x.length ≤ 8) (by omega)] at q
        simp only [Bool.and_false, Bool.false_and] at q
        exact q
      · simp -dsimp only [cWORDS, in_strs, ↓DL.e_while, ↓DL.e_seq, ↓DL.e_next, ↓DL.e_break, ↓DL.e_cont, ↓DL.e_drop, ↓DL.e_ret, ↓DL.e_retN, ↓DL.e_ifS, ↓DL.e_set, ↓DL.e_own, ↓DL.e_par, ↓DL.e_asg, ↓DL.e_kName, ↓DL.e_kNil, ↓DL.e_kCons, ↓DL.e_kTup, ↓DL.e_for, ↓DL.e_raise, ↓DL.e_try, ↓DL.e_var, ↓DL.e_c, ↓DL.e_op, ↓DL.e_un, ↓DL.e_if, ↓DL.e_andV, ↓DL.e_orV, ↓DL.e_notV, ↓DL.e_chain, ↓DL.e_B, ↓DL.e_and, ↓DL.e_or, ↓DL.e_not, ↓DL.e_yes, ↓DL.e_isi, ↓DL.e_CB, ↓DL.e_nil, ↓DL.e_cons, ↓DL.e_tup, ↓DL.e_fr, ↓DL.e_lst, ↓DL.e_listOf, ↓DL.e_call, ↓DL.e_seqIt, ↓DL.e_ran1, ↓DL.e_ran2, ↓DL.e_comp, ↓DL.e_lenOwn, ↓DL.e_ownM, ↓DL.e_strM, ↓DL.e_split, ↓DL.e_fmt, ↓DL.e_joined, ↓DL.e_js0, ↓DL.e_js, ↓DL.e_noPart, ↓DL.e_part, ↓DL.e_sl, ↓DL.e_xf, ↓DL.e_isE, DL.g_ifT, DL.g_ifF, DL.g_bl, DL.g_int, DL.g_str, DL.g_step, DL.g_some, DL.g_none, DL.g_slst, DL.g_stup, DL.g_sstr, DL.g_sscr, DL.gd_0, DL.gd_s, DL.sd_0, DL.sd_s, DL.g_par, DL.g_tupG, DL.g_vown, DL.g_vval, DL.g_listOft, DL.g_listOfl, DL.g_ran1, DL.g_ran2, DL.wipe_0, DL.wipe_s, DL.g_own, DL.g_append, DL.g_pop, DL.g_joinl, DL.g_joint, DL.g_fmts, DL.g_fmti, DL.g_slt, DL.g_sls, DL.o_int0, DL.o_int, DL.o_addi, DL.o_adds, DL.o_addt, DL.o_addl, DL.o_eqi, DL.o_nei, DL.o_isN, DL.o_notN, DL.o_bl2, DL.o_ixt, DL.o_ixl, DL.o_ixs, DL.o_inss, DL.o_int_, DL.o_inl, DL.l_lent, DL.l_lenl, DL.l_lens, DL.l_abs, DL.l_inti, DL.l_intb, DL.l_str, DL.l_tupt, DL.l_tupl, DL.l_all, DL.l_sum, DL.isB_non, DL.isB_bl, DL.isB_int, DL.isB_str, DL.isB_tup, DL.isB_lst, DL.isN_non, DL.isN_bl, DL.isN_int, DL.isN_str, DL.isN_tup, DL.isN_lst, DL.isN_ins, DL.g_exc, DL.g_gnx, DL.g_grt, DL.g_gbk, DL.g_gct, DL.d_eq1, DL.d_eq0, DL.d_lt1, DL.d_lt0, DL.d_le1, DL.d_le0, DL.at0, DL.at1, DL.at2, DL.at3, DL.at4, DL.at5, DL.kit_nn_int, DL.kit_nn_bool, DL.kit_nn_str, DL.kit_nn_tuple, DL.kit_nn_list, DL.kit_bool_int, DL.kit_bool_bool, DL.kit_bool_str, DL.kit_bool_tuple, DL.kit_bool_list, DL.kit_int_int, DL.kit_int_bool, DL.kit_int_str, DL.kit_int_tuple, DL.kit_int_list, DL.kit_str_int, DL.kit_str_bool, DL.kit_str_str, DL.kit_str_tuple, DL.kit_str_list, DL.kit_tuple_int, DL.kit_tuple_bool, DL.kit_tuple_str, DL.kit_tuple_tuple, DL.kit_tuple_list, DL.kit_list_int, DL.kit_list_bool, DL.kit_list_str, DL.kit_list_tuple, DL.kit_list_list, DL.own_non, DL.own_bl, DL.own_int, DL.own_str, DL.own_tup, DL.own_lst, DL.own_bag, DL.own_scr, DL.own_ins, DL.own_exc, DL.o_eq, DL.o_ne, DL.cmp_int, DL.cmp_bl, DL.cmp_non, DL.eq_int, true_and, and_true, Bool.not_true, Bool.not_false, DL.xcOf, List.length_cons, List.length_nil, DL.startD, List.map_cons, List.map_nil, List.replicate_succ, List.replicate_zero, List.cons_append, List.nil_append, Nat.reduceSub, Nat.reduceAdd, Int.cast_ofNat_Int, Int.natCast_zero, Int.natCast_one, decide_true, decide_false, not_false_eq_true, Int.reduceEq, Int.reduceLT, Int.reduceLE, Int.reduceNeg]
        refine ⟨cmp_str h.1, cmp_words, ?_⟩
        rw [decide_eq_true (p := 1 ≤ x.length) (by omega), decide_eq_true (p := x.length ≤ 8) (by omega)] at q
        refine if_bool (fun h3 => ?_) (fun h3 => ?_)
        · walk_at "run"
          rw [h3] at q
          exact q
        · simp -dsimp only [cLETTERS, ↓DL.e_while, ↓DL.e_seq, ↓DL.e_next, ↓DL.e_break, ↓DL.e_cont, ↓DL.e_drop, ↓DL.e_ret, ↓DL.e_retN, ↓DL.e_ifS, ↓DL.e_set, ↓DL.e_own, ↓DL.e_par, ↓DL.e_asg, ↓DL.e_kName, ↓DL.e_kNil, ↓DL.e_kCons, ↓DL.e_kTup, ↓DL.e_for, ↓DL.e_raise, ↓DL.e_try, ↓DL.e_var, ↓DL.e_c, ↓DL.e_op, ↓DL.e_un, ↓DL.e_if, ↓DL.e_andV, ↓DL.e_orV, ↓DL.e_notV, ↓DL.e_chain, ↓DL.e_B, ↓DL.e_and, ↓DL.e_or, ↓DL.e_not, ↓DL.e_yes, ↓DL.e_isi, ↓DL.e_CB, ↓DL.e_nil, ↓DL.e_cons, ↓DL.e_tup, ↓DL.e_fr, ↓DL.e_lst, ↓DL.e_listOf, ↓DL.e_call, ↓DL.e_seqIt, ↓DL.e_ran1, ↓DL.e_ran2, ↓DL.e_comp, ↓DL.e_lenOwn, ↓DL.e_ownM, ↓DL.e_strM, ↓DL.e_split, ↓DL.e_fmt, ↓DL.e_joined, ↓DL.e_js0, ↓DL.e_js, ↓DL.e_noPart, ↓DL.e_part, ↓DL.e_sl, ↓DL.e_xf, ↓DL.e_isE, DL.g_ifT, DL.g_ifF, DL.g_bl, DL.g_int, DL.g_str, DL.g_step, DL.g_some, DL.g_none, DL.g_slst, DL.g_stup, DL.g_sstr, DL.g_sscr, DL.gd_0, DL.gd_s, DL.sd_0, DL.sd_s, DL.g_par, DL.g_tupG, DL.g_vown, DL.g_vval, DL.g_listOft, DL.g_listOfl, DL.g_ran1, DL.g_ran2, DL.wipe_0, DL.wipe_s, DL.g_own, DL.g_append, DL.g_pop, DL.g_joinl, DL.g_joint, DL.g_fmts, DL.g_fmti, DL.g_slt, DL.g_sls, DL.o_int0, DL.o_int, DL.o_addi, DL.o_adds, DL.o_addt, DL.o_addl, DL.o_eqi, DL.o_nei, DL.o_isN, DL.o_notN, DL.o_bl2, DL.o_ixt, DL.o_ixl, DL.o_ixs, DL.o_inss, DL.o_int_, DL.o_inl, DL.l_lent, DL.l_lenl, DL.l_lens, DL.l_abs, DL.l_inti, DL.l_intb, DL.l_str, DL.l_tupt, DL.l_tupl, DL.l_all, DL.l_sum, DL.isB_non, DL.isB_bl, DL.isB_int, DL.isB_str, DL.isB_tup, DL.isB_lst, DL.isN_non, DL.isN_bl, DL.isN_int, DL.isN_str, DL.isN_tup, DL.isN_lst, DL.isN_ins, DL.g_exc, DL.g_gnx, DL.g_grt, DL.g_gbk, DL.g_gct, DL.d_eq1, DL.d_eq0, DL.d_lt1, DL.d_lt0, DL.d_le1, DL.d_le0, DL.at0, DL.at1, DL.at2, DL.at3, DL.at4, DL.at5, DL.kit_nn_int, DL.kit_nn_bool, DL.kit_nn_str, DL.kit_nn_tuple, DL.kit_nn_list, DL.kit_bool_int, DL.kit_bool_bool, DL.kit_bool_str, DL.kit_bool_tuple, DL.kit_bool_list, DL.kit_int_int, DL.kit_int_bool, DL.kit_int_str, DL.kit_int_tuple, DL.kit_int_list, DL.kit_str_int, DL.kit_str_bool, DL.kit_str_str, DL.kit_str_tuple, DL.kit_str_list, DL.kit_tuple_int, DL.kit_tuple_bool, DL.kit_tuple_str, DL.kit_tuple_tuple, DL.kit_tuple_list, DL.kit_list_int, DL.kit_list_bool, DL.kit_list_str, DL.kit_list_tuple, DL.kit_list_list, DL.own_non, DL.own_bl, DL.own_int, DL.own_str, DL.own_tup, DL.own_lst, DL.own_bag, DL.own_scr, DL.own_ins, DL.own_exc, DL.o_eq, DL.o_ne, DL.cmp_int, DL.cmp_bl, DL.cmp_non, DL.eq_int, true_and, and_true, Bool.not_true, Bool.not_false, DL.xcOf, List.length_cons, List.length_nil, DL.startD, List.map_cons, List.map_nil, List.replicate_succ, List.replicate_zero, List.cons_append, List.nil_append, Nat.reduceSub, Nat.reduceAdd, Int.cast_ofNat_Int, Int.natCast_zero, Int.natCast_one, decide_true, decide_false, not_false_eq_true, Int.reduceEq, Int.reduceLT, Int.reduceLE, Int.reduceNeg]
          rw [h3] at q
          refine ⟨le_line (by rw [signs_len]; omega), compD_fun (fun c => .bl (inL c)) rfl (fun y hy Q q => ?_) ?_⟩
          · obtain ⟨c, rfl⟩ := signs_one hy
            exact q _ rfl
          · show opL _ _ _
            rw [l_all, asBls_map, g_some]
            rw [show ((signs x).map inL).all id = (signs x).all inL by rw [List.all_map]; rfl]
            exact q
    · walk_at "run"
      rw [decide_eq_false (p := 1 ≤ x.length) (by omega)] at q
      simp only [Bool.false_and] at q
      exact q
theorem filt_nil {α : Type} {p : α → Bool} : ∀ xs : List α, (xs.filter fun x => !p x) = [] ↔ xs.all p = true
  | [] => by simp
  | x :: xs => by simp
theorem signs_ok {x : Str} (h : strOkD x = true) : ∀ y ∈ signs x, okD y = true ∧ depD y = 0 := by
  intro y hy
  unfold signs at hy
  obtain ⟨c, hc, rfl⟩ := List.mem_map.mp hy
  have h' : x.cps.all (· < 0x110000) = true := h
  have h2 : c < 0x110000 := by
    rw [Array.all_eq_true_iff_forall_mem] at h'
    simpa using h' c (by simpa using hc)
  exact ⟨strOk_one h2, rfl⟩
theorem flat_ok : ∀ xs : List D, (∀ y ∈ xs, okD y = true ∧ depD y = 0) → okD (.lst xs) = true ∧ depD (.lst xs) ≤ 60 := by
  intro xs h
  have key : ∀ xs : List D, (∀ y ∈ xs, okD y = true ∧ depD y = 0) → okAll xs = true ∧ depAll xs = 0 := by
    intro xs
    induction xs with
    | nil => intro _; exact ⟨rfl, rfl⟩
    | cons x xs ih =>
      intro h
      obtain ⟨a1, a2⟩ := h x List.mem_cons_self
      obtain ⟨b1, b2⟩ := ih fun y hy => h y (List.mem_cons_of_mem _ hy)
      exact ⟨by rw [okAll, a1, b1]; rfl, by rw [depAll, a2, b2]; rfl⟩
  obtain ⟨k1, k2⟩ := key xs h
  exact ⟨by rw [okD]; exact k1, by rw [depD, k2]; decide⟩
theorem rd__law_name_fits {ds Q X} (h : sp__law_name_fits ds Q X) : t__law_name_fits X (endD Q) (startD 2 ds) := by
  match ds, h with
  | [d], ⟨h, q⟩ =>
    have h8 := h
    cases d <;> simp only [okN, Bool.false_eq_true, Bool.and_eq_true, decide_eq_true_eq] at h <;> (unfold t__law_name_fits; walk_at "run") <;> (first | exact q | skip)
    rename_i x
    have e : fitsN (.str x) = (decide (1 ≤ x.length) && decide (x.length ≤ 8) && !(reserved.contains x) && (signs x).all inL) := rfl
    rw [e] at q
    rw [un_call]
    unfold sp__law_reserved
    simp -dsimp only [in_strs, ↓DL.e_while, ↓DL.e_seq, ↓DL.e_next, ↓DL.e_break, ↓DL.e_cont, ↓DL.e_drop, ↓DL.e_ret, ↓DL.e_retN, ↓DL.e_ifS, ↓DL.e_set, ↓DL.e_own, ↓DL.e_par, ↓DL.e_asg, ↓DL.e_kName, ↓DL.e_kNil, ↓DL.e_kCons, ↓DL.e_kTup, ↓DL.e_for, ↓DL.e_raise, ↓DL.e_try, ↓DL.e_var, ↓DL.e_c, ↓DL.e_op, ↓DL.e_un, ↓DL.e_if, ↓DL.e_andV, ↓DL.e_orV, ↓DL.e_notV, ↓DL.e_chain, ↓DL.e_B, ↓DL.e_and, ↓DL.e_or, ↓DL.e_not, ↓DL.e_yes, ↓DL.e_isi, ↓DL.e_CB, ↓DL.e_nil, ↓DL.e_cons, ↓DL.e_tup, ↓DL.e_fr, ↓DL.e_lst, ↓DL.e_listOf, ↓DL.e_call, ↓DL.e_seqIt, ↓DL.e_ran1, ↓DL.e_ran2, ↓DL.e_comp, ↓DL.e_lenOwn, ↓DL.e_ownM, ↓DL.e_strM, ↓DL.e_split, ↓DL.e_fmt, ↓DL.e_joined, ↓DL.e_js0, ↓DL.e_js, ↓DL.e_noPart, ↓DL.e_part, ↓DL.e_sl, ↓DL.e_xf, ↓DL.e_isE, DL.g_ifT, DL.g_ifF, DL.g_bl, DL.g_int, DL.g_str, DL.g_step, DL.g_some, DL.g_none, DL.g_slst, DL.g_stup, DL.g_sstr, DL.g_sscr, DL.gd_0, DL.gd_s, DL.sd_0, DL.sd_s, DL.g_par, DL.g_tupG, DL.g_vown, DL.g_vval, DL.g_listOft, DL.g_listOfl, DL.g_ran1, DL.g_ran2, DL.wipe_0, DL.wipe_s, DL.g_own, DL.g_append, DL.g_pop, DL.g_joinl, DL.g_joint, DL.g_fmts, DL.g_fmti, DL.g_slt, DL.g_sls, DL.o_int0, DL.o_int, DL.o_addi, DL.o_adds, DL.o_addt, DL.o_addl, DL.o_eqi, DL.o_nei, DL.o_isN, DL.o_notN, DL.o_bl2, DL.o_ixt, DL.o_ixl, DL.o_ixs, DL.o_inss, DL.o_int_, DL.o_inl, DL.l_lent, DL.l_lenl, DL.l_lens, DL.l_abs, DL.l_inti, DL.l_intb, DL.l_str, DL.l_tupt, DL.l_tupl, DL.l_all, DL.l_sum, DL.isB_non, DL.isB_bl, DL.isB_int, DL.isB_str, DL.isB_tup, DL.isB_lst, DL.isN_non, DL.isN_bl, DL.isN_int, DL.isN_str, DL.isN_tup, DL.isN_lst, DL.isN_ins, DL.g_exc, DL.g_gnx, DL.g_grt, DL.g_gbk, DL.g_gct, DL.d_eq1, DL.d_eq0, DL.d_lt1, DL.d_lt0, DL.d_le1, DL.d_le0, DL.at0, DL.at1, DL.at2, DL.at3, DL.at4, DL.at5, DL.kit_nn_int, DL.kit_nn_bool, DL.kit_nn_str, DL.kit_nn_tuple, DL.kit_nn_list, DL.kit_bool_int, DL.kit_bool_bool, DL.kit_bool_str, DL.kit_bool_tuple, DL.kit_bool_list, DL.kit_int_int, DL.kit_int_bool, DL.kit_int_str, DL.kit_int_tuple, DL.kit_int_list, DL.kit_str_int, DL.kit_str_bool, DL.kit_str_str, DL.kit_str_tuple, DL.kit_str_list, DL.kit_tuple_int, DL.kit_tuple_bool, DL.kit_tuple_str, DL.kit_tuple_tuple, DL.kit_tuple_list, DL.kit_list_int, DL.kit_list_bool, DL.kit_list_str, DL.kit_list_tuple, DL.kit_list_list, DL.own_non, DL.own_bl, DL.own_int, DL.own_str, DL.own_tup, DL.own_lst, DL.own_bag, DL.own_scr, DL.own_ins, DL.own_exc, DL.o_eq, DL.o_ne, DL.cmp_int, DL.cmp_bl, DL.cmp_non, DL.eq_int, true_and, and_true, Bool.not_true, Bool.not_false, DL.xcOf, List.length_cons, List.length_nil, DL.startD, List.map_cons, List.map_nil, List.replicate_succ, List.replicate_zero, List.cons_append, List.nil_append, Nat.reduceSub, Nat.reduceAdd, Int.cast_ofNat_Int, Int.natCast_zero, Int.natCast_one, decide_true, decide_false, not_false_eq_true, Int.reduceEq, Int.reduceLT, Int.reduceLE, Int.reduceNeg]
    refine ⟨cmp_str h.1, cmp_wordsl, ?_⟩
    refine if_bool (fun h3 => ?_) (fun h3 => ?_)
    · walk_at "run"
      rw [h3] at q
      simp only [Bool.not_true, Bool.and_false, Bool.false_and] at q
      exact q
    walk_at "run"
    refine ⟨le_line (by omega), ?_⟩
    refine if_dec (fun h1 => ?_) (fun h1 => ?_)
    · walk_at "run"
      rw [decide_eq_false (p := 1 ≤ x.length) (by omega)] at q
      simp only [Bool.false_and] at q
      exact q
    walk_at "run"
    refine ⟨le_line (by omega), ?_⟩
    refine if_dec (fun h2 => ?_) (fun h2 => ?_)
    · walk_at "run"
      rw [decide_eq_false (p := x.length ≤ 8) (by omega)] at q
      simp only [Bool.and_false, Bool.false_and] at q
      exact q
    walk_at "run"
    rw [decide_eq_true (p := 1 ≤ x.length) (by omega), decide_eq_true (p := x.length ≤ 8) (by omega), h3] at q
    refine ⟨le_line (by rw [signs_len]; omega), compD_filt (fun c => !inL c) (fun c => c) rfl (fun y hy QT k => ?_) ?_⟩
    · obtain ⟨c, rfl⟩ := signs_one hy
      refine k _ rfl fun _ Q q => q _ rfl
    · walk_at "run"
      have hk := signs_ok h.1
      have hf : ∀ y ∈ (signs x).filter (fun c => !inL c), okD y = true ∧ depD y = 0 := fun y hy => hk y (List.mem_filter.mp hy).1
      rw [List.map_id'' (fun _ => rfl)]
      refine ⟨Nat.zero_le _, ⟨(flat_ok _ hf).1, (flat_ok _ hf).2⟩, ⟨rfl, by decide⟩, ?_⟩
      cases e : (signs x).all inL with
      | true =>
        rw [(filt_nil (p := inL) (signs x)).mpr e]
        rw [e] at q
        exact q
      | false =>
        have hne : (signs x).filter (fun c => !inL c) ≠ [] := fun z => by
          rw [(filt_nil (p := inL) (signs x)).mp z] at e; cases e
        rw [e] at q
        cases e2 : (signs x).filter (fun c => !inL c) with
        | nil => exact (hne e2).elim
        | cons y ys => exact q
theorem pick_log {m : Int} (h : m ≤ 1000) (h0 : 0 < m) : m.natAbs.log2 < 9000 := by
  refine log_small ?_
  have : m.natAbs ≤ 1000 := by omega
  exact Nat.le_trans this (by decide)
theorem letters_ix {n : Nat} (h : n < 26) : ∃ c, letters.cps.toList[n]? = some c ∧ c < 0x110000 := by
  have key : ∀ n : Fin 26, ∃ c, letters.cps.toList[n.val]? = some c ∧ c < 0x110000 := by decide +kernel
  exact key ⟨n, h⟩
theorem rd__law_spelled {ds Q X} (h : sp__law_spelled ds Q X) : t__law_spelled X (endD Q) (startD 3 ds) := by
  match ds, h with
  | [.bag, .int n], ⟨h0, h1, q⟩ =>
    (unfold t__law_spelled; walk_at "run")
    have hl : (intsD 0 n.toNat).length = n.toNat := by unfold intsD; simp
    refine ⟨⟨by omega, by omega⟩, le_line (by omega), ?_⟩
    refine compD_one (fun _ d => ∃ y : Str, d = .str y ∧ y.length = 1 ∧ strOkD y = true) rfl (fun x hx Q k => ?_) fun ds hf => ?_
    · walk_at "run"
      refine ⟨by decide, pick_log (by decide) (by decide), fun r r0 r1 => ?_⟩
      obtain ⟨m, rfl⟩ : ∃ m : Nat, r = m := ⟨r.toNat, by omega⟩
      obtain ⟨c, e1, e2⟩ := letters_ix (show m < 26 by omega)
      have e3 : atI letters.cps.toList (m : Int) = some c := by
        rw [at_nat]
        · exact e1
        · exact (List.getElem?_eq_some_iff.mp e1).1
      walk_at "run"
      refine ⟨by decide, ?_⟩
      show optD (atI letters.cps.toList (m : Int)) _
      rw [e3]
      exact k _ _ ⟨_, rfl, rfl, strOk_one e2⟩ rfl
    · obtain ⟨ys, rfl, hr, hy⟩ := F2_str hf
      obtain ⟨j1, j2⟩ := join_none ys hr
      show smD _ _ _ _
      rw [g_joinl, asStrs_map, g_some]
      refine ⟨?_, q _ (by omega) j2⟩
      have e0 : (Str.ofString "").length = 0 := by decide
      rw [e0, Nat.mul_zero, Nat.add_zero]
      have hs : ∀ zs : List Str, (∀ y ∈ zs, y.length = 1 ∧ strOkD y = true) → (zs.map (·.length)).sum = zs.length := by
        intro zs
        induction zs with
        | nil => intro _; rfl
        | cons z zs ih => intro h; rw [List.map_cons, List.sum_cons, ih fun y hy => h y (List.mem_cons_of_mem _ hy), (h z List.mem_cons_self).1, List.length_cons]; omega
      rw [hs ys hr]
      omega
theorem nat_add {i j : Int} {k : Nat} (h1 : i.natAbs < 2 ^ k) (h2 : j.natAbs < 2 ^ k) : (i + j).natAbs < 2 ^ (k + 1) := by
  have := Int.natAbs_add_le i j
  rw [Nat.pow_succ]
  omega
theorem plus_loop {X : Str → List D → Prop} {R : Endd} {c : Option D} : ∀ (xs : List D) (ps : List (Int × Int)) (t b : Int) (z : Option D) (m : Nat), pairsOf xs = some ps → (∀ x ∈ ps, small6 x) → 0 < b → t.natAbs < 2 ^ m → b.natAbs < 2 ^ m → m + 601 * xs.length ≤ 4000 →
    (∀ (T B : Int) (z : Option D), 0 < B → bd B → T = t * (sumR ps).2 + (sumR ps).1 * b → B = b * (sumR ps).2 → R.nx [c, some (.int T), some (.int B), z]) →
    loopD (kName 3) (dPar 1 2 (dCons (dOp rAdd (dOp rMul (dVar 1) (dOp rIxD (dVar 3) (dC (.int 1)))) (dOp rMul (dOp rIxD (dVar 3) (dC (.int 0))) (dVar 2))) (dCons (dOp rMul (dVar 2) (dOp rIxD (dVar 3) (dC (.int 1)))) (dNil)))) R xs [c, some (.int t), some (.int b), z]
  | [], ps, t, b, z, m, e, _, hb, ht, hbb, hm, k => by
    cases e
    exact k t b z hb (Nat.lt_of_lt_of_le hbb (Nat.pow_le_pow_right (by decide) (by omega))) (by simp [sumR]) (by simp [sumR])
  | x :: xs, ps, t, b, z, m, e, hs, hb, ht, hbb, hm, k => by
    unfold pairsOf at e
    cases e1 : pairOf x with
    | none => rw [e1] at e; cases e
    | some pq =>
      cases e2 : pairsOf xs with
      | none => rw [e1, e2] at e; cases e
      | some r =>
        rw [e1, e2] at e
        cases e
        obtain ⟨p, q⟩ := pq
        obtain ⟨q0, bp, bq⟩ := hs (p, q) List.mem_cons_self
        have m1 : mulOk t q := mul_bd ht bq (by omega)
        have m2 : mulOk p b := mul_bd bp hbb (by omega)
        have m3 : mulOk b q := mul_bd hbb bq (by omega)
        have hlen : m + 601 * (xs.length + 1) ≤ 4000 := hm
        have n1 := nat_add (nat_mul ht bq (Nat.le_refl (m + 600))) (nat_mul (k := m + 600) bp hbb (by omega))
        have n3 : (b * q).natAbs < 2 ^ (m + 600 + 1) := Nat.lt_of_lt_of_le (nat_mul hbb bq (Nat.le_refl (m + 600))) (Nat.pow_le_pow_right (by decide) (by omega))
        have rec' := plus_loop (X := X) (R := R) (c := c) xs r (t * q + p * b) (b * q) (some x) (m + 600 + 1) e2 (fun y hy => hs y (List.mem_cons_of_mem _ hy)) (Int.mul_pos hb q0) n1 n3 (by omega) fun T B z' B0 Bb eT eB => k T B z' B0 Bb (by rw [eT]; simp only [sumR]; grind) (by rw [eB]; simp only [sumR]; grind)
        rcases pair_ix e1 with rfl | rfl
        · simp -dsimp only [loopD, ↓DL.e_while, ↓DL.e_seq, ↓DL.e_next, ↓DL.e_break, ↓DL.e_cont, ↓DL.e_drop, ↓DL.e_ret, ↓DL.e_retN, ↓DL.e_ifS, ↓DL.e_set, ↓DL.e_own, ↓DL.e_par, ↓DL.e_asg, ↓DL.e_kName, ↓DL.e_kNil, ↓DL.e_kCons, ↓DL.e_kTup, ↓DL.e_for, ↓DL.e_raise, ↓DL.e_try, ↓DL.e_var, ↓DL.e_c, ↓DL.e_op, ↓DL.e_un, ↓DL.e_if, ↓DL.e_andV, ↓DL.e_orV, ↓DL.e_notV, ↓DL.e_chain, ↓DL.e_B, ↓DL.e_and, ↓DL.e_or, ↓DL.e_not, ↓DL.e_yes, ↓DL.e_isi, ↓DL.e_CB, ↓DL.e_nil, ↓DL.e_cons, ↓DL.e_tup, ↓DL.e_fr, ↓DL.e_lst, ↓DL.e_listOf, ↓DL.e_call, ↓DL.e_seqIt, ↓DL.e_ran1, ↓DL.e_ran2, ↓DL.e_comp, ↓DL.e_lenOwn, ↓DL.e_ownM, ↓DL.e_strM, ↓DL.e_split, ↓DL.e_fmt, ↓DL.e_joined, ↓DL.e_js0, ↓DL.e_js, ↓DL.e_noPart, ↓DL.e_part, ↓DL.e_sl, ↓DL.e_xf, ↓DL.e_isE, DL.g_ifT, DL.g_ifF, DL.g_bl, DL.g_int, DL.g_str, DL.g_step, DL.g_some, DL.g_none, DL.g_slst, DL.g_stup, DL.g_sstr, DL.g_sscr, DL.gd_0, DL.gd_s, DL.sd_0, DL.sd_s, DL.g_par, DL.g_tupG, DL.g_vown, DL.g_vval, DL.g_listOft, DL.g_listOfl, DL.g_ran1, DL.g_ran2, DL.wipe_0, DL.wipe_s, DL.g_own, DL.g_append, DL.g_pop, DL.g_joinl, DL.g_joint, DL.g_fmts, DL.g_fmti, DL.g_slt, DL.g_sls, DL.o_int0, DL.o_int, DL.o_addi, DL.o_adds, DL.o_addt, DL.o_addl, DL.o_eqi, DL.o_nei, DL.o_isN, DL.o_notN, DL.o_bl2, DL.o_ixt, DL.o_ixl, DL.o_ixs, DL.o_inss, DL.o_int_, DL.o_inl, DL.l_lent, DL.l_lenl, DL.l_lens, DL.l_abs, DL.l_inti, DL.l_intb, DL.l_str, DL.l_tupt, DL.l_tupl, DL.l_all, DL.l_sum, DL.isB_non, DL.isB_bl, DL.isB_int, DL.isB_str, DL.isB_tup, DL.isB_lst, DL.isN_non, DL.isN_bl, DL.isN_int, DL.isN_str, DL.isN_tup, DL.isN_lst, DL.isN_ins, DL.g_exc, DL.g_gnx, DL.g_grt, DL.g_gbk, DL.g_gct, DL.d_eq1, DL.d_eq0, DL.d_lt1, DL.d_lt0, DL.d_le1, DL.d_le0, DL.at0, DL.at1, DL.at2, DL.at3, DL.at4, DL.at5, DL.kit_nn_int, DL.kit_nn_bool, DL.kit_nn_str, DL.kit_nn_tuple, DL.kit_nn_list, DL.kit_bool_int, DL.kit_bool_bool, DL.kit_bool_str, DL.kit_bool_tuple, DL.kit_bool_list, DL.kit_int_int, DL.kit_int_bool, DL.kit_int_str, DL.kit_int_tuple, DL.kit_int_list, DL.kit_str_int, DL.kit_str_bool, DL.kit_str_str, DL.kit_str_tuple, DL.kit_str_list, DL.kit_tuple_int, DL.kit_tuple_bool, DL.kit_tuple_str, DL.kit_tuple_tuple, DL.kit_tuple_list, DL.kit_list_int, DL.kit_list_bool, DL.kit_list_str, DL.kit_list_tuple, DL.kit_list_list, DL.own_non, DL.own_bl, DL.own_int, DL.own_str, DL.own_tup, DL.own_lst, DL.own_bag, DL.own_scr, DL.own_ins, DL.own_exc, DL.o_eq, DL.o_ne, DL.cmp_int, DL.cmp_bl, DL.cmp_non, DL.eq_int, true_and, and_true, Bool.not_true, Bool.not_false, DL.xcOf, List.length_cons, List.length_nil, DL.startD, List.map_cons, List.map_nil, List.replicate_succ, List.replicate_zero, List.cons_append, List.nil_append, Nat.reduceSub, Nat.reduceAdd, Int.cast_ofNat_Int, Int.natCast_zero, Int.natCast_one, decide_true, decide_false, not_false_eq_true, Int.reduceEq, Int.reduceLT, Int.reduceLE, Int.reduceNeg]
          exact ⟨m1, m2, m3, rec'⟩
        · simp -dsimp only [loopD, ↓DL.e_while, ↓DL.e_seq, ↓DL.e_next, ↓DL.e_break, ↓DL.e_cont, ↓DL.e_drop, ↓DL.e_ret, ↓DL.e_retN, ↓DL.e_ifS, ↓DL.e_set, ↓DL.e_own, ↓DL.e_par, ↓DL.e_asg, ↓DL.e_kName, ↓DL.e_kNil, ↓DL.e_kCons, ↓DL.e_kTup, ↓DL.e_for, ↓DL.e_raise, ↓DL.e_try, ↓DL.e_var, ↓DL.e_c, ↓DL.e_op, ↓DL.e_un, ↓DL.e_if, ↓DL.e_andV, ↓DL.e_orV, ↓DL.e_notV, ↓DL.e_chain, ↓DL.e_B, ↓DL.e_and, ↓DL.e_or, ↓DL.e_not, ↓DL.e_yes, ↓DL.e_isi, ↓DL.e_CB, ↓DL.e_nil, ↓DL.e_cons, ↓DL.e_tup, ↓DL.e_fr, ↓DL.e_lst, ↓DL.e_listOf, ↓DL.e_call, ↓DL.e_seqIt, ↓DL.e_ran1, ↓DL.e_ran2, ↓DL.e_comp, ↓DL.e_lenOwn, ↓DL.e_ownM, ↓DL.e_strM, ↓DL.e_split, ↓DL.e_fmt, ↓DL.e_joined, ↓DL.e_js0, ↓DL.e_js, ↓DL.e_noPart, ↓DL.e_part, ↓DL.e_sl, ↓DL.e_xf, ↓DL.e_isE, DL.g_ifT, DL.g_ifF, DL.g_bl, DL.g_int, DL.g_str, DL.g_step, DL.g_some, DL.g_none, DL.g_slst, DL.g_stup, DL.g_sstr, DL.g_sscr, DL.gd_0, DL.gd_s, DL.sd_0, DL.sd_s, DL.g_par, DL.g_tupG, DL.g_vown, DL.g_vval, DL.g_listOft, DL.g_listOfl, DL.g_ran1, DL.g_ran2, DL.wipe_0, DL.wipe_s, DL.g_own, DL.g_append, DL.g_pop, DL.g_joinl, DL.g_joint, DL.g_fmts, DL.g_fmti, DL.g_slt, DL.g_sls, DL.o_int0, DL.o_int, DL.o_addi, DL.o_adds, DL.o_addt, DL.o_addl, DL.o_eqi, DL.o_nei, DL.o_isN, DL.o_notN, DL.o_bl2, DL.o_ixt, DL.o_ixl, DL.o_ixs, DL.o_inss, DL.o_int_, DL.o_inl, DL.l_lent, DL.l_lenl, DL.l_lens, DL.l_abs, DL.l_inti, DL.l_intb, DL.l_str, DL.l_tupt, DL.l_tupl, DL.l_all, DL.l_sum, DL.isB_non, DL.isB_bl, DL.isB_int, DL.isB_str, DL.isB_tup, DL.isB_lst, DL.isN_non, DL.isN_bl, DL.isN_int, DL.isN_str, DL.isN_tup, DL.isN_lst, DL.isN_ins, DL.g_exc, DL.g_gnx, DL.g_grt, DL.g_gbk, DL.g_gct, DL.d_eq1, DL.d_eq0, DL.d_lt1, DL.d_lt0, DL.d_le1, DL.d_le0, DL.at0, DL.at1, DL.at2, DL.at3, DL.at4, DL.at5, DL.kit_nn_int, DL.kit_nn_bool, DL.kit_nn_str, DL.kit_nn_tuple, DL.kit_nn_list, DL.kit_bool_int, DL.kit_bool_bool, DL.kit_bool_str, DL.kit_bool_tuple, DL.kit_bool_list, DL.kit_int_int, DL.kit_int_bool, DL.kit_int_str, DL.kit_int_tuple, DL.kit_int_list, DL.kit_str_int, DL.kit_str_bool, DL.kit_str_str, DL.kit_str_tuple, DL.kit_str_list, DL.kit_tuple_int, DL.kit_tuple_bool, DL.kit_tuple_str, DL.kit_tuple_tuple, DL.kit_tuple_list, DL.kit_list_int, DL.kit_list_bool, DL.kit_list_str, DL.kit_list_tuple, DL.kit_list_list, DL.own_non, DL.own_bl, DL.own_int, DL.own_str, DL.own_tup, DL.own_lst, DL.own_bag, DL.own_scr, DL.own_ins, DL.own_exc, DL.o_eq, DL.o_ne, DL.cmp_int, DL.cmp_bl, DL.cmp_non, DL.eq_int, true_and, and_true, Bool.not_true, Bool.not_false, DL.xcOf, List.length_cons, List.length_nil, DL.startD, List.map_cons, List.map_nil, List.replicate_succ, List.replicate_zero, List.cons_append, List.nil_append, Nat.reduceSub, Nat.reduceAdd, Int.cast_ofNat_Int, Int.natCast_zero, Int.natCast_one, decide_true, decide_false, not_false_eq_true, Int.reduceEq, Int.reduceLT, Int.reduceLE, Int.reduceNeg]
          exact ⟨m1, m2, m3, rec'⟩
theorem rd_plus {ds Q X} (h : sp_plus1 ds Q X) : t_plus X (endD Q) (startD 4 ds) := by
  match ds, h with
  | [.tup xs], ⟨h0, ps, h1, h2, q⟩ =>
    (unfold t_plus; walk_at "run")
    refine ⟨by decide, plus_loop (X := X) xs ps 0 1 none 2 h1 h2 (by decide) (by decide) (by decide) (by omega) fun T B z B0 Bb eT eB => ?_⟩
    walk_at "run"
    refine ⟨Bb, fun e => by omega, fun _ => q T B B0 ?_, fun e => by omega⟩
    rw [eT, eB]
    grind
theorem rd__law_sum {ds Q X} (h : sp__law_sum ds Q X) : t__law_sum X (endD Q) (startD 1 ds) := by
  match ds, h with
  | [.lst xs], ⟨h0, ps, h1, h2, q⟩ =>
    have hp : sp_plus xs Q X := ⟨le_line (by omega), h0, ps, h1, h2, q⟩
    match xs, h0, hp with
    | [], _, hp => (unfold t__law_sum; walk_at "run"); exact hp
    | [a], _, hp => (unfold t__law_sum; walk_at "run"); exact hp
    | [a, b], _, hp => (unfold t__law_sum; walk_at "run"); exact hp
    | [a, b, c], _, hp => (unfold t__law_sum; walk_at "run"); exact hp
    | [a, b, c, d], _, hp => (unfold t__law_sum; walk_at "run"); exact hp
    | [a, b, c, d, e], _, hp => (unfold t__law_sum; walk_at "run"); exact hp
    | [a, b, c, d, e, f], _, hp => (unfold t__law_sum; walk_at "run"); exact hp
end K01

set_option Elab.async false
set_option linter.all false
set_option maxRecDepth 100000
set_option maxHeartbeats 4000000
/-! K01u: the readings keep the promises, three. -/
namespace K01
open PySem PySem.Spec L2 DL
theorem int_of {d : D} (h : isIntD d = true) : ∃ i, d = .int i := by
  cases d <;> first | exact ⟨_, rfl⟩ | cases h
theorem rd__law_odd_ratio {ds Q X} (h : sp__law_odd_ratio ds Q X) : t__law_odd_ratio X (endD Q) (startD 4 ds) := by
  match ds, h with
  | [.bag], q =>
    (unfold t__law_odd_ratio; walk_at "run")
    refine ⟨by decide, pick_log (by decide) (by decide), fun r r0 r1 => ?_⟩
    walk_at "run"
    refine if_dec (fun h4 => ?_) (fun h4 => ?_)
    · walk_at "run"
      refine ⟨⟨by decide, by decide, by decide⟩, le_line (n := 14) (by decide), by simp, by decide, fun x hx => ?_⟩
      obtain ⟨i, rfl⟩ := int_of (List.all_eq_true.mp (show List.all _ isIntD = true from by rfl) x hx)
      walk_at "run"
      refine ⟨le_line (n := 10) (by decide), by simp, by decide, fun y hy => ?_⟩
      obtain ⟨j, rfl⟩ := int_of (List.all_eq_true.mp (show List.all _ isIntD = true from by rfl) y hy)
      walk_at "run"
      exact ⟨le_line (n := 2) (by decide), q _ rfl rfl⟩
    walk_at "run"
    refine if_dec (fun h6 => ?_) (fun h6 => ?_)
    · walk_at "run"
      refine ⟨by decide, log_small (by decide), fun r' _ _ => ?_⟩
      walk_at "run"
      refine ⟨by decide, pick_log (by decide) (by decide), fun r' _ _ => ?_⟩
      walk_at "run"
      exact ⟨le_line (n := 2) (by decide), q _ rfl rfl⟩
    · walk_at "run"
      refine ⟨le_line (n := 0) (by decide), le_line (n := 1) (by decide), le_line (n := 3) (by decide), le_line (n := 2) (by decide), le_line (n := 2) (by decide), le_line (n := 2) (by decide), le_line (n := 2) (by decide), le_line (n := 2) (by decide), le_line (n := 2) (by decide), le_line (n := 2) (by decide), le_line (n := 14) (by decide), by simp, by decide, fun x hx => ?_⟩
      simp only [List.mem_cons, List.not_mem_nil, or_false] at hx
      rcases hx with rfl | rfl | rfl | rfl | rfl | rfl | rfl | rfl | rfl | rfl | rfl | rfl | rfl | rfl <;> exact q _ (by decide +kernel) rfl
/-! ### words -/
theorem res_ok : reserved.all (fun y => decide (y.length ≤ 10) && strOkD y) = true := by decide +kernel
theorem strOk_cut {x : Str} {lo hi : Option Int} (h : strOkD x = true) : strOkD (cutS x lo hi) = true := by
  have h' : x.cps.all (· < 0x110000) = true := h
  show ((cutS x lo hi).cps.all (· < 0x110000)) = true
  unfold cutS
  rw [List.all_toArray, List.all_eq_true]
  intro c hc
  rw [Array.all_eq_true_iff_forall_mem] at h'
  exact h' c (by have := List.mem_of_mem_drop (List.mem_of_mem_take hc); simpa using this)
theorem len_cut {x : Str} {lo hi : Option Int} : (cutS x lo hi).length ≤ x.length := by
  show (cutS x lo hi).cps.size ≤ x.cps.size
  unfold cutS
  simp
  omega
def signL : List Str := ["a", "z", "m", "s", "A", "Z", "0", "9", "_", " ", "-", "~", "{", "@"]
theorem sign_ok : signL.all (fun y => decide (y.length = 1) && strOkD y) = true := by decide +kernel
theorem okS {w : Str} (h1 : w.length ≤ 1000) (h2 : strOkD w = true) : okN 7 (.str w) = true := by
  simp only [okN, h2, Bool.true_and, decide_eq_true_eq]
  exact h1
theorem word_rest {Q : D → Prop} {X : Str → List D → Prop} {way : Int} {w : Str} (hw : w.length ≤ 10) (hk : strOkD w = true) (q : ∀ d, okN 7 d = true → Q d) : t__law_word_of_4 X (endD Q) [some .bag, some (.int way), some (.str w), none, none, none] := by
  (unfold t__law_word_of_4; walk_at "run")
  refine ⟨by decide, pick_log (by decide) (by decide), fun r r0 r1 => ?_⟩
  (unfold t__law_word_of_5; walk_at "run")
  refine ⟨le_line (by omega), by omega, pick_log (by omega) (by omega), fun at' a0 a1 => ?_⟩
  (unfold t__law_word_of_6; walk_at "run")
  refine ⟨le_line (n := 14) (by decide), by simp, by decide, fun x hx => ?_⟩
  obtain ⟨sg, hs, rfl⟩ : ∃ y ∈ signL, x = .str y := by
    obtain ⟨y, hy, e⟩ := List.mem_map.mp (show x ∈ signL.map D.str from hx)
    exact ⟨y, hy, e.symm⟩
  obtain ⟨s1, s2⟩ := Bool.and_eq_true_iff.mp (List.all_eq_true.mp sign_ok sg hs)
  have s1' := of_decide_eq_true s1
  have c1 := fun lo hi => len_cut (x := w) (lo := lo) (hi := hi)
  (unfold t__law_word_of_7; walk_at "run")
  refine if_dec (fun h1 => ?_) (fun h1 => ?_)
  · subst h1
    walk_at "run"
    refine ⟨le_line (by omega), le_line (by have := c1 none (some at'); omega), le_line (by omega), le_line (by rw [Str.length_append]; have := c1 none (some at'); have := c1 (some at') none; omega), ?_⟩
    (unfold t__law_word_of_8; walk_at "run")
    (unfold t__law_word_of_9; walk_at "run")
    (unfold t__law_word_of_10; walk_at "run")
    refine q _ (okS ?_ ?_)
    · rw [Str.length_append, Str.length_append]; have := c1 none (some at'); have := c1 (some at') none; omega
    · rw [strOk_app, strOk_app, strOk_cut hk, strOk_cut hk, s2]; rfl
  walk_at "run"
  (unfold t__law_word_of_8; walk_at "run")
  refine if_dec (fun h2 => ?_) (fun h2 => ?_)
  · subst h2
    walk_at "run"
    refine ⟨le_line (by omega), le_line (by omega), le_line (by have := c1 none (some at'); have := c1 (some (at' + 1)) none; omega), ?_⟩
    (unfold t__law_word_of_9; walk_at "run")
    (unfold t__law_word_of_10; walk_at "run")
    refine q _ (okS ?_ ?_)
    · rw [Str.length_append]; have := c1 none (some at'); have := c1 (some (at' + 1)) none; omega
    · rw [strOk_app, strOk_cut hk, strOk_cut hk]; rfl
  walk_at "run"
  (unfold t__law_word_of_9; walk_at "run")
  refine if_dec (fun h3 => ?_) (fun h3 => ?_)
  · subst h3
    walk_at "run"
    refine ⟨le_line (by omega), le_line (by have := c1 none (some at'); omega), le_line (by omega), le_line (by rw [Str.length_append]; have := c1 none (some at'); have := c1 (some (at' + 1)) none; omega), ?_⟩
    (unfold t__law_word_of_10; walk_at "run")
    refine q _ (okS ?_ ?_)
    · rw [Str.length_append, Str.length_append]; have := c1 none (some at'); have := c1 (some (at' + 1)) none; omega
    · rw [strOk_app, strOk_app, strOk_cut hk, strOk_cut hk, s2]; rfl
  walk_at "run"
  (unfold t__law_word_of_10; walk_at "run")
  exact q _ (okS (by omega) hk)
theorem rd__law_word_of {ds Q X} (h : sp__law_word_of ds Q X) : t__law_word_of X (endD Q) (startD 6 ds) := by
  match ds, h with
  | [.bag], q =>
    (unfold t__law_word_of; walk_at "run")
    refine ⟨by decide, pick_log (by decide) (by decide), fun r r0 r1 => ?_⟩
    (unfold t__law_word_of_1; walk_at "run")
    refine if_dec (fun h7 => ?_) (fun h7 => ?_)
    · walk_at "run"
      refine ⟨le_line (n := 1) (by decide), le_line (n := 1) (by decide), le_line (n := 0) (by decide), ⟨by decide, by decide, by decide⟩, le_line (n := 7) (by decide), by simp, by decide, fun x hx => ?_⟩
      simp only [List.mem_cons, List.not_mem_nil, or_false] at hx
      rcases hx with rfl | rfl | rfl | rfl | rfl | rfl | rfl <;> exact q _ (by decide +kernel)
    walk_at "run"
    (unfold t__law_word_of_2; walk_at "run")
    refine ⟨by decide, pick_log (by decide) (by decide), fun n n0 n1 => ?_⟩
    walk_at "run"
    refine ⟨n0, by omega, fun z z1 z2 => ?_⟩
    (unfold t__law_word_of_3; walk_at "run")
    refine if_dec (fun h4 => ?_) (fun h4 => ?_)
    · walk_at "run"
      rw [un_call]
      unfold sp__law_reserved
      walk_at "run"
      refine ⟨by decide, by decide, fun x hx => ?_⟩
      obtain ⟨y, hy, rfl⟩ := List.mem_map.mp hx
      obtain ⟨s1, s2⟩ := Bool.and_eq_true_iff.mp (List.all_eq_true.mp res_ok y hy)
      exact word_rest (of_decide_eq_true s1) s2 q
    · exact word_rest z1 z2 q
/-! ### names -/
theorem c_truth {x y : Bool} {K : D → Prop} {X : Str → List D → Prop} : callD sp__law_truth [.bl x, .bl y] K X = K (.bl (x == y)) := id rfl
theorem c_res {K : D → Prop} {X : Str → List D → Prop} : callD sp__law_reserved [] K X = K (.lst (reserved.map .str)) := id rfl
theorem lst_tup : ∀ (n : Nat) (d : D), okN n d = true → okN n (lstD d) = true ∧ tupD (lstD d) = tupD d := by
  intro n
  induction n with
  | zero => intro d h; cases d <;> simp only [okN, Bool.false_eq_true] at h <;> first | exact ⟨rfl, rfl⟩ | exact ⟨h, rfl⟩
  | succ n ih =>
    intro d h
    cases d <;> simp only [okN, Bool.false_eq_true, Bool.and_eq_true, decide_eq_true_eq] at h <;> first | exact ⟨rfl, rfl⟩ | (refine ⟨?_, rfl⟩; simp only [lstD, okN, Bool.and_eq_true, decide_eq_true_eq]; exact h) | skip
    all_goals
      rw [lstD, lstDs_map, tupD, tupD, tupDs_map, tupDs_map, List.map_map]
      refine ⟨?_, ?_⟩
      · simp only [okN, Bool.and_eq_true, decide_eq_true_eq, List.length_map]
        refine ⟨h.1, List.all_eq_true.mpr fun y hy => ?_⟩
        obtain ⟨x, hx, rfl⟩ := List.mem_map.mp hy
        exact (ih x (List.all_eq_true.mp h.2 x hx)).1
      · exact congrArg D.tup (List.map_congr_left fun x hx => (ih x (List.all_eq_true.mp h.2 x hx)).2)
theorem plain_words : plainB cWORDS = true := by decide +kernel
theorem names_loop1 {X : Str → List D → Prop} {R : Endd} (k : ∀ z z2, R.nx [some .bag, z, z2, none] ) : ∀ (xs : List D) (z z2 : Option D),
    loopD (kName 1) (dSeq (dSet 2 (dCall sp__law_word_of (xcOf X) (dCons (dVar 0) (dNil))))
  (dSeq (dIfS (dNot (dB (dCall sp__law_truth (xcOf X) (dCons (dCall sp_is_name (xcOf X) (dCons (dVar 2) (dNil))) (dCons (dCall sp__law_name_fits (xcOf X) (dCons (dVar 2) (dNil))) (dNil)))))) (dRet (dC (.bl false))) (dNext))
  (dSeq (dSet 2 (dCall sp__law_odd_ratio (xcOf X) (dCons (dVar 0) (dNil))))
  (dSeq (dIfS (dNot (dB (dCall sp__law_truth (xcOf X) (dCons (dCall sp_is_ratio (xcOf X) (dCons (dVar 2) (dNil))) (dCons (dCall sp__law_ratio_fits (xcOf X) (dCons (dVar 2) (dNil))) (dNil)))))) (dRet (dC (.bl false))) (dNext))
  (dIfS (dNot (dB (dCall sp__law_truth (xcOf X) (dCons (dCall sp_is_ratio (xcOf X) (dCons (dCall (sp__law_lists 8) (xcOf X) (dCons (dVar 2) (dNil))) (dNil))) (dCons (dCall sp__law_ratio_fits (xcOf X) (dCons (dVar 2) (dNil))) (dNil)))))) (dRet (dC (.bl false))) (dNext)))))) R xs [some .bag, z, z2, none]
  | [], z, z2 => k z z2
  | x :: xs, z, z2 => by
    simp -dsimp only [loopD, ↓DL.e_while, ↓DL.e_seq, ↓DL.e_next, ↓DL.e_break, ↓DL.e_cont, ↓DL.e_drop, ↓DL.e_ret, ↓DL.e_retN, ↓DL.e_ifS, ↓DL.e_set, ↓DL.e_own, ↓DL.e_par, ↓DL.e_asg, ↓DL.e_kName, ↓DL.e_kNil, ↓DL.e_kCons, ↓DL.e_kTup, ↓DL.e_for, ↓DL.e_raise, ↓DL.e_try, ↓DL.e_var, ↓DL.e_c, ↓DL.e_op, ↓DL.e_un, ↓DL.e_if, ↓DL.e_andV, ↓DL.e_orV, ↓DL.e_notV, ↓DL.e_chain, ↓DL.e_B, ↓DL.e_and, ↓DL.e_or, ↓DL.e_not, ↓DL.e_yes, ↓DL.e_isi, ↓DL.e_CB, ↓DL.e_nil, ↓DL.e_cons, ↓DL.e_tup, ↓DL.e_fr, ↓DL.e_lst, ↓DL.e_listOf, ↓DL.e_call, ↓DL.e_seqIt, ↓DL.e_ran1, ↓DL.e_ran2, ↓DL.e_comp, ↓DL.e_lenOwn, ↓DL.e_ownM, ↓DL.e_strM, ↓DL.e_split, ↓DL.e_fmt, ↓DL.e_joined, ↓DL.e_js0, ↓DL.e_js, ↓DL.e_noPart, ↓DL.e_part, ↓DL.e_sl, ↓DL.e_xf, ↓DL.e_isE, DL.g_ifT, DL.g_ifF, DL.g_bl, DL.g_int, DL.g_str, DL.g_step, DL.g_some, DL.g_none, DL.g_slst, DL.g_stup, DL.g_sstr, DL.g_sscr, DL.gd_0, DL.gd_s, DL.sd_0, DL.sd_s, DL.g_par, DL.g_tupG, DL.g_vown, DL.g_vval, DL.g_listOft, DL.g_listOfl, DL.g_ran1, DL.g_ran2, DL.wipe_0, DL.wipe_s, DL.g_own, DL.g_append, DL.g_pop, DL.g_joinl, DL.g_joint, DL.g_fmts, DL.g_fmti, DL.g_slt, DL.g_sls, DL.o_int0, DL.o_int, DL.o_addi, DL.o_adds, DL.o_addt, DL.o_addl, DL.o_eqi, DL.o_nei, DL.o_isN, DL.o_notN, DL.o_bl2, DL.o_ixt, DL.o_ixl, DL.o_ixs, DL.o_inss, DL.o_int_, DL.o_inl, DL.l_lent, DL.l_lenl, DL.l_lens, DL.l_abs, DL.l_inti, DL.l_intb, DL.l_str, DL.l_tupt, DL.l_tupl, DL.l_all, DL.l_sum, DL.isB_non, DL.isB_bl, DL.isB_int, DL.isB_str, DL.isB_tup, DL.isB_lst, DL.isN_non, DL.isN_bl, DL.isN_int, DL.isN_str, DL.isN_tup, DL.isN_lst, DL.isN_ins, DL.g_exc, DL.g_gnx, DL.g_grt, DL.g_gbk, DL.g_gct, DL.d_eq1, DL.d_eq0, DL.d_lt1, DL.d_lt0, DL.d_le1, DL.d_le0, DL.at0, DL.at1, DL.at2, DL.at3, DL.at4, DL.at5, DL.kit_nn_int, DL.kit_nn_bool, DL.kit_nn_str, DL.kit_nn_tuple, DL.kit_nn_list, DL.kit_bool_int, DL.kit_bool_bool, DL.kit_bool_str, DL.kit_bool_tuple, DL.kit_bool_list, DL.kit_int_int, DL.kit_int_bool, DL.kit_int_str, DL.kit_int_tuple, DL.kit_int_list, DL.kit_str_int, DL.kit_str_bool, DL.kit_str_str, DL.kit_str_tuple, DL.kit_str_list, DL.kit_tuple_int, DL.kit_tuple_bool, DL.kit_tuple_str, DL.kit_tuple_tuple, DL.kit_tuple_list, DL.kit_list_int, DL.kit_list_bool, DL.kit_list_str, DL.kit_list_tuple, DL.kit_list_list, DL.own_non, DL.own_bl, DL.own_int, DL.own_str, DL.own_tup, DL.own_lst, DL.own_bag, DL.own_scr, DL.own_ins, DL.own_exc, DL.o_eq, DL.o_ne, DL.cmp_int, DL.cmp_bl, DL.cmp_non, DL.eq_int, true_and, and_true, Bool.not_true, Bool.not_false, DL.xcOf, List.length_cons, List.length_nil, DL.startD, List.map_cons, List.map_nil, List.replicate_succ, List.replicate_zero, List.cons_append, List.nil_append, Nat.reduceSub, Nat.reduceAdd, Int.cast_ofNat_Int, Int.natCast_zero, Int.natCast_one, decide_true, decide_false, not_false_eq_true, Int.reduceEq, Int.reduceLT, Int.reduceLE, Int.reduceNeg]
    intro d hd
    have h8 := okN_mono hd (show 7 ≤ 8 by omega)
    simp -dsimp only [okN_own hd, ↓DL.e_while, ↓DL.e_seq, ↓DL.e_next, ↓DL.e_break, ↓DL.e_cont, ↓DL.e_drop, ↓DL.e_ret, ↓DL.e_retN, ↓DL.e_ifS, ↓DL.e_set, ↓DL.e_own, ↓DL.e_par, ↓DL.e_asg, ↓DL.e_kName, ↓DL.e_kNil, ↓DL.e_kCons, ↓DL.e_kTup, ↓DL.e_for, ↓DL.e_raise, ↓DL.e_try, ↓DL.e_var, ↓DL.e_c, ↓DL.e_op, ↓DL.e_un, ↓DL.e_if, ↓DL.e_andV, ↓DL.e_orV, ↓DL.e_notV, ↓DL.e_chain, ↓DL.e_B, ↓DL.e_and, ↓DL.e_or, ↓DL.e_not, ↓DL.e_yes, ↓DL.e_isi, ↓DL.e_CB, ↓DL.e_nil, ↓DL.e_cons, ↓DL.e_tup, ↓DL.e_fr, ↓DL.e_lst, ↓DL.e_listOf, ↓DL.e_call, ↓DL.e_seqIt, ↓DL.e_ran1, ↓DL.e_ran2, ↓DL.e_comp, ↓DL.e_lenOwn, ↓DL.e_ownM, ↓DL.e_strM, ↓DL.e_split, ↓DL.e_fmt, ↓DL.e_joined, ↓DL.e_js0, ↓DL.e_js, ↓DL.e_noPart, ↓DL.e_part, ↓DL.e_sl, ↓DL.e_xf, ↓DL.e_isE, DL.g_ifT, DL.g_ifF, DL.g_bl, DL.g_int, DL.g_str, DL.g_step, DL.g_some, DL.g_none, DL.g_slst, DL.g_stup, DL.g_sstr, DL.g_sscr, DL.gd_0, DL.gd_s, DL.sd_0, DL.sd_s, DL.g_par, DL.g_tupG, DL.g_vown, DL.g_vval, DL.g_listOft, DL.g_listOfl, DL.g_ran1, DL.g_ran2, DL.wipe_0, DL.wipe_s, DL.g_own, DL.g_append, DL.g_pop, DL.g_joinl, DL.g_joint, DL.g_fmts, DL.g_fmti, DL.g_slt, DL.g_sls, DL.o_int0, DL.o_int, DL.o_addi, DL.o_adds, DL.o_addt, DL.o_addl, DL.o_eqi, DL.o_nei, DL.o_isN, DL.o_notN, DL.o_bl2, DL.o_ixt, DL.o_ixl, DL.o_ixs, DL.o_inss, DL.o_int_, DL.o_inl, DL.l_lent, DL.l_lenl, DL.l_lens, DL.l_abs, DL.l_inti, DL.l_intb, DL.l_str, DL.l_tupt, DL.l_tupl, DL.l_all, DL.l_sum, DL.isB_non, DL.isB_bl, DL.isB_int, DL.isB_str, DL.isB_tup, DL.isB_lst, DL.isN_non, DL.isN_bl, DL.isN_int, DL.isN_str, DL.isN_tup, DL.isN_lst, DL.isN_ins, DL.g_exc, DL.g_gnx, DL.g_grt, DL.g_gbk, DL.g_gct, DL.d_eq1, DL.d_eq0, DL.d_lt1, DL.d_lt0, DL.d_le1, DL.d_le0, DL.at0, DL.at1, DL.at2, DL.at3, DL.at4, DL.at5, DL.kit_nn_int, DL.kit_nn_bool, DL.kit_nn_str, DL.kit_nn_tuple, DL.kit_nn_list, DL.kit_bool_int, DL.kit_bool_bool, DL.kit_bool_str, DL.kit_bool_tuple, DL.kit_bool_list, DL.kit_int_int, DL.kit_int_bool, DL.kit_int_str, DL.kit_int_tuple, DL.kit_int_list, DL.kit_str_int, DL.kit_str_bool, DL.kit_str_str, DL.kit_str_tuple, DL.kit_str_list, DL.kit_tuple_int, DL.kit_tuple_bool, DL.kit_tuple_str, DL.kit_tuple_tuple, DL.kit_tuple_list, DL.kit_list_int, DL.kit_list_bool, DL.kit_list_str, DL.kit_list_tuple, DL.kit_list_list, DL.own_non, DL.own_bl, DL.own_int, DL.own_str, DL.own_tup, DL.own_lst, DL.own_bag, DL.own_scr, DL.own_ins, DL.own_exc, DL.o_eq, DL.o_ne, DL.cmp_int, DL.cmp_bl, DL.cmp_non, DL.eq_int, true_and, and_true, Bool.not_true, Bool.not_false, DL.xcOf, List.length_cons, List.length_nil, DL.startD, List.map_cons, List.map_nil, List.replicate_succ, List.replicate_zero, List.cons_append, List.nil_append, Nat.reduceSub, Nat.reduceAdd, Int.cast_ofNat_Int, Int.natCast_zero, Int.natCast_one, decide_true, decide_false, not_false_eq_true, Int.reduceEq, Int.reduceLT, Int.reduceLE, Int.reduceNeg]
    refine ⟨h8, ?_⟩
    simp -dsimp only [okN_own hd, ↓DL.e_while, ↓DL.e_seq, ↓DL.e_next, ↓DL.e_break, ↓DL.e_cont, ↓DL.e_drop, ↓DL.e_ret, ↓DL.e_retN, ↓DL.e_ifS, ↓DL.e_set, ↓DL.e_own, ↓DL.e_par, ↓DL.e_asg, ↓DL.e_kName, ↓DL.e_kNil, ↓DL.e_kCons, ↓DL.e_kTup, ↓DL.e_for, ↓DL.e_raise, ↓DL.e_try, ↓DL.e_var, ↓DL.e_c, ↓DL.e_op, ↓DL.e_un, ↓DL.e_if, ↓DL.e_andV, ↓DL.e_orV, ↓DL.e_notV, ↓DL.e_chain, ↓DL.e_B, ↓DL.e_and, ↓DL.e_or, ↓DL.e_not, ↓DL.e_yes, ↓DL.e_isi, ↓DL.e_CB, ↓DL.e_nil, ↓DL.e_cons, ↓DL.e_tup, ↓DL.e_fr, ↓DL.e_lst, ↓DL.e_listOf, ↓DL.e_call, ↓DL.e_seqIt, ↓DL.e_ran1, ↓DL.e_ran2, ↓DL.e_comp, ↓DL.e_lenOwn, ↓DL.e_ownM, ↓DL.e_strM, ↓DL.e_split, ↓DL.e_fmt, ↓DL.e_joined, ↓DL.e_js0, ↓DL.e_js, ↓DL.e_noPart, ↓DL.e_part, ↓DL.e_sl, ↓DL.e_xf, ↓DL.e_isE, DL.g_ifT, DL.g_ifF, DL.g_bl, DL.g_int, DL.g_str, DL.g_step, DL.g_some, DL.g_none, DL.g_slst, DL.g_stup, DL.g_sstr, DL.g_sscr, DL.gd_0, DL.gd_s, DL.sd_0, DL.sd_s, DL.g_par, DL.g_tupG, DL.g_vown, DL.g_vval, DL.g_listOft, DL.g_listOfl, DL.g_ran1, DL.g_ran2, DL.wipe_0, DL.wipe_s, DL.g_own, DL.g_append, DL.g_pop, DL.g_joinl, DL.g_joint, DL.g_fmts, DL.g_fmti, DL.g_slt, DL.g_sls, DL.o_int0, DL.o_int, DL.o_addi, DL.o_adds, DL.o_addt, DL.o_addl, DL.o_eqi, DL.o_nei, DL.o_isN, DL.o_notN, DL.o_bl2, DL.o_ixt, DL.o_ixl, DL.o_ixs, DL.o_inss, DL.o_int_, DL.o_inl, DL.l_lent, DL.l_lenl, DL.l_lens, DL.l_abs, DL.l_inti, DL.l_intb, DL.l_str, DL.l_tupt, DL.l_tupl, DL.l_all, DL.l_sum, DL.isB_non, DL.isB_bl, DL.isB_int, DL.isB_str, DL.isB_tup, DL.isB_lst, DL.isN_non, DL.isN_bl, DL.isN_int, DL.isN_str, DL.isN_tup, DL.isN_lst, DL.isN_ins, DL.g_exc, DL.g_gnx, DL.g_grt, DL.g_gbk, DL.g_gct, DL.d_eq1, DL.d_eq0, DL.d_lt1, DL.d_lt0, DL.d_le1, DL.d_le0, DL.at0, DL.at1, DL.at2, DL.at3, DL.at4, DL.at5, DL.kit_nn_int, DL.kit_nn_bool, DL.kit_nn_str, DL.kit_nn_tuple, DL.kit_nn_list, DL.kit_bool_int, DL.kit_bool_bool, DL.kit_bool_str, DL.kit_bool_tuple, DL.kit_bool_list, DL.kit_int_int, DL.kit_int_bool, DL.kit_int_str, DL.kit_int_tuple, DL.kit_int_list, DL.kit_str_int, DL.kit_str_bool, DL.kit_str_str, DL.kit_str_tuple, DL.kit_str_list, DL.kit_tuple_int, DL.kit_tuple_bool, DL.kit_tuple_str, DL.kit_tuple_tuple, DL.kit_tuple_list, DL.kit_list_int, DL.kit_list_bool, DL.kit_list_str, DL.kit_list_tuple, DL.kit_list_list, DL.own_non, DL.own_bl, DL.own_int, DL.own_str, DL.own_tup, DL.own_lst, DL.own_bag, DL.own_scr, DL.own_ins, DL.own_exc, DL.o_eq, DL.o_ne, DL.cmp_int, DL.cmp_bl, DL.cmp_non, DL.eq_int, true_and, and_true, Bool.not_true, Bool.not_false, DL.xcOf, List.length_cons, List.length_nil, DL.startD, List.map_cons, List.map_nil, List.replicate_succ, List.replicate_zero, List.cons_append, List.nil_append, Nat.reduceSub, Nat.reduceAdd, Int.cast_ofNat_Int, Int.natCast_zero, Int.natCast_one, decide_true, decide_false, not_false_eq_true, Int.reduceEq, Int.reduceLT, Int.reduceLE, Int.reduceNeg]
    refine ⟨h8, ?_⟩
    simp -dsimp only [c_truth, beq_self_eq_true, ↓DL.e_while, ↓DL.e_seq, ↓DL.e_next, ↓DL.e_break, ↓DL.e_cont, ↓DL.e_drop, ↓DL.e_ret, ↓DL.e_retN, ↓DL.e_ifS, ↓DL.e_set, ↓DL.e_own, ↓DL.e_par, ↓DL.e_asg, ↓DL.e_kName, ↓DL.e_kNil, ↓DL.e_kCons, ↓DL.e_kTup, ↓DL.e_for, ↓DL.e_raise, ↓DL.e_try, ↓DL.e_var, ↓DL.e_c, ↓DL.e_op, ↓DL.e_un, ↓DL.e_if, ↓DL.e_andV, ↓DL.e_orV, ↓DL.e_notV, ↓DL.e_chain, ↓DL.e_B, ↓DL.e_and, ↓DL.e_or, ↓DL.e_not, ↓DL.e_yes, ↓DL.e_isi, ↓DL.e_CB, ↓DL.e_nil, ↓DL.e_cons, ↓DL.e_tup, ↓DL.e_fr, ↓DL.e_lst, ↓DL.e_listOf, ↓DL.e_call, ↓DL.e_seqIt, ↓DL.e_ran1, ↓DL.e_ran2, ↓DL.e_comp, ↓DL.e_lenOwn, ↓DL.e_ownM, ↓DL.e_strM, ↓DL.e_split, ↓DL.e_fmt, ↓DL.e_joined, ↓DL.e_js0, ↓DL.e_js, ↓DL.e_noPart, ↓DL.e_part, ↓DL.e_sl, ↓DL.e_xf, ↓DL.e_isE, DL.g_ifT, DL.g_ifF, DL.g_bl, DL.g_int, DL.g_str, DL.g_step, DL.g_some, DL.g_none, DL.g_slst, DL.g_stup, DL.g_sstr, DL.g_sscr, DL.gd_0, DL.gd_s, DL.sd_0, DL.sd_s, DL.g_par, DL.g_tupG, DL.g_vown, DL.g_vval, DL.g_listOft, DL.g_listOfl, DL.g_ran1, DL.g_ran2, DL.wipe_0, DL.wipe_s, DL.g_own, DL.g_append, DL.g_pop, DL.g_joinl, DL.g_joint, DL.g_fmts, DL.g_fmti, DL.g_slt, DL.g_sls, DL.o_int0, DL.o_int, DL.o_addi, DL.o_adds, DL.o_addt, DL.o_addl, DL.o_eqi, DL.o_nei, DL.o_isN, DL.o_notN, DL.o_bl2, DL.o_ixt, DL.o_ixl, DL.o_ixs, DL.o_inss, DL.o_int_, DL.o_inl, DL.l_lent, DL.l_lenl, DL.l_lens, DL.l_abs, DL.l_inti, DL.l_intb, DL.l_str, DL.l_tupt, DL.l_tupl, DL.l_all, DL.l_sum, DL.isB_non, DL.isB_bl, DL.isB_int, DL.isB_str, DL.isB_tup, DL.isB_lst, DL.isN_non, DL.isN_bl, DL.isN_int, DL.isN_str, DL.isN_tup, DL.isN_lst, DL.isN_ins, DL.g_exc, DL.g_gnx, DL.g_grt, DL.g_gbk, DL.g_gct, DL.d_eq1, DL.d_eq0, DL.d_lt1, DL.d_lt0, DL.d_le1, DL.d_le0, DL.at0, DL.at1, DL.at2, DL.at3, DL.at4, DL.at5, DL.kit_nn_int, DL.kit_nn_bool, DL.kit_nn_str, DL.kit_nn_tuple, DL.kit_nn_list, DL.kit_bool_int, DL.kit_bool_bool, DL.kit_bool_str, DL.kit_bool_tuple, DL.kit_bool_list, DL.kit_int_int, DL.kit_int_bool, DL.kit_int_str, DL.kit_int_tuple, DL.kit_int_list, DL.kit_str_int, DL.kit_str_bool, DL.kit_str_str, DL.kit_str_tuple, DL.kit_str_list, DL.kit_tuple_int, DL.kit_tuple_bool, DL.kit_tuple_str, DL.kit_tuple_tuple, DL.kit_tuple_list, DL.kit_list_int, DL.kit_list_bool, DL.kit_list_str, DL.kit_list_tuple, DL.kit_list_list, DL.own_non, DL.own_bl, DL.own_int, DL.own_str, DL.own_tup, DL.own_lst, DL.own_bag, DL.own_scr, DL.own_ins, DL.own_exc, DL.o_eq, DL.o_ne, DL.cmp_int, DL.cmp_bl, DL.cmp_non, DL.eq_int, true_and, and_true, Bool.not_true, Bool.not_false, DL.xcOf, List.length_cons, List.length_nil, DL.startD, List.map_cons, List.map_nil, List.replicate_succ, List.replicate_zero, List.cons_append, List.nil_append, Nat.reduceSub, Nat.reduceAdd, Int.cast_ofNat_Int, Int.natCast_zero, Int.natCast_one, decide_true, decide_false, not_false_eq_true, Int.reduceEq, Int.reduceLT, Int.reduceLE, Int.reduceNeg]
    intro e he te
    have e8 := okN_mono he (show 7 ≤ 8 by omega)
    simp -dsimp only [okN_own he, ↓DL.e_while, ↓DL.e_seq, ↓DL.e_next, ↓DL.e_break, ↓DL.e_cont, ↓DL.e_drop, ↓DL.e_ret, ↓DL.e_retN, ↓DL.e_ifS, ↓DL.e_set, ↓DL.e_own, ↓DL.e_par, ↓DL.e_asg, ↓DL.e_kName, ↓DL.e_kNil, ↓DL.e_kCons, ↓DL.e_kTup, ↓DL.e_for, ↓DL.e_raise, ↓DL.e_try, ↓DL.e_var, ↓DL.e_c, ↓DL.e_op, ↓DL.e_un, ↓DL.e_if, ↓DL.e_andV, ↓DL.e_orV, ↓DL.e_notV, ↓DL.e_chain, ↓DL.e_B, ↓DL.e_and, ↓DL.e_or, ↓DL.e_not, ↓DL.e_yes, ↓DL.e_isi, ↓DL.e_CB, ↓DL.e_nil, ↓DL.e_cons, ↓DL.e_tup, ↓DL.e_fr, ↓DL.e_lst, ↓DL.e_listOf, ↓DL.e_call, ↓DL.e_seqIt, ↓DL.e_ran1, ↓DL.e_ran2, ↓DL.e_comp, ↓DL.e_lenOwn, ↓DL.e_ownM, ↓DL.e_strM, ↓DL.e_split, ↓DL.e_fmt, ↓DL.e_joined, ↓DL.e_js0, ↓DL.e_js, ↓DL.e_noPart, ↓DL.e_part, ↓DL.e_sl, ↓DL.e_xf, ↓DL.e_isE, DL.g_ifT, DL.g_ifF, DL.g_bl, DL.g_int, DL.g_str, DL.g_step, DL.g_some, DL.g_none, DL.g_slst, DL.g_stup, DL.g_sstr, DL.g_sscr, DL.gd_0, DL.gd_s, DL.sd_0, DL.sd_s, DL.g_par, DL.g_tupG, DL.g_vown, DL.g_vval, DL.g_listOft, DL.g_listOfl, DL.g_ran1, DL.g_ran2, DL.wipe_0, DL.wipe_s, DL.g_own, DL.g_append, DL.g_pop, DL.g_joinl, DL.g_joint, DL.g_fmts, DL.g_fmti, DL.g_slt, DL.g_sls, DL.o_int0, DL.o_int, DL.o_addi, DL.o_adds, DL.o_addt, DL.o_addl, DL.o_eqi, DL.o_nei, DL.o_isN, DL.o_notN, DL.o_bl2, DL.o_ixt, DL.o_ixl, DL.o_ixs, DL.o_inss, DL.o_int_, DL.o_inl, DL.l_lent, DL.l_lenl, DL.l_lens, DL.l_abs, DL.l_inti, DL.l_intb, DL.l_str, DL.l_tupt, DL.l_tupl, DL.l_all, DL.l_sum, DL.isB_non, DL.isB_bl, DL.isB_int, DL.isB_str, DL.isB_tup, DL.isB_lst, DL.isN_non, DL.isN_bl, DL.isN_int, DL.isN_str, DL.isN_tup, DL.isN_lst, DL.isN_ins, DL.g_exc, DL.g_gnx, DL.g_grt, DL.g_gbk, DL.g_gct, DL.d_eq1, DL.d_eq0, DL.d_lt1, DL.d_lt0, DL.d_le1, DL.d_le0, DL.at0, DL.at1, DL.at2, DL.at3, DL.at4, DL.at5, DL.kit_nn_int, DL.kit_nn_bool, DL.kit_nn_str, DL.kit_nn_tuple, DL.kit_nn_list, DL.kit_bool_int, DL.kit_bool_bool, DL.kit_bool_str, DL.kit_bool_tuple, DL.kit_bool_list, DL.kit_int_int, DL.kit_int_bool, DL.kit_int_str, DL.kit_int_tuple, DL.kit_int_list, DL.kit_str_int, DL.kit_str_bool, DL.kit_str_str, DL.kit_str_tuple, DL.kit_str_list, DL.kit_tuple_int, DL.kit_tuple_bool, DL.kit_tuple_str, DL.kit_tuple_tuple, DL.kit_tuple_list, DL.kit_list_int, DL.kit_list_bool, DL.kit_list_str, DL.kit_list_tuple, DL.kit_list_list, DL.own_non, DL.own_bl, DL.own_int, DL.own_str, DL.own_tup, DL.own_lst, DL.own_bag, DL.own_scr, DL.own_ins, DL.own_exc, DL.o_eq, DL.o_ne, DL.cmp_int, DL.cmp_bl, DL.cmp_non, DL.eq_int, true_and, and_true, Bool.not_true, Bool.not_false, DL.xcOf, List.length_cons, List.length_nil, DL.startD, List.map_cons, List.map_nil, List.replicate_succ, List.replicate_zero, List.cons_append, List.nil_append, Nat.reduceSub, Nat.reduceAdd, Int.cast_ofNat_Int, Int.natCast_zero, Int.natCast_one, decide_true, decide_false, not_false_eq_true, Int.reduceEq, Int.reduceLT, Int.reduceLE, Int.reduceNeg]
    refine ⟨e8, ?_⟩
    simp -dsimp only [okN_own he, ↓DL.e_while, ↓DL.e_seq, ↓DL.e_next, ↓DL.e_break, ↓DL.e_cont, ↓DL.e_drop, ↓DL.e_ret, ↓DL.e_retN, ↓DL.e_ifS, ↓DL.e_set, ↓DL.e_own, ↓DL.e_par, ↓DL.e_asg, ↓DL.e_kName, ↓DL.e_kNil, ↓DL.e_kCons, ↓DL.e_kTup, ↓DL.e_for, ↓DL.e_raise, ↓DL.e_try, ↓DL.e_var, ↓DL.e_c, ↓DL.e_op, ↓DL.e_un, ↓DL.e_if, ↓DL.e_andV, ↓DL.e_orV, ↓DL.e_notV, ↓DL.e_chain, ↓DL.e_B, ↓DL.e_and, ↓DL.e_or, ↓DL.e_not, ↓DL.e_yes, ↓DL.e_isi, ↓DL.e_CB, ↓DL.e_nil, ↓DL.e_cons, ↓DL.e_tup, ↓DL.e_fr, ↓DL.e_lst, ↓DL.e_listOf, ↓DL.e_call, ↓DL.e_seqIt, ↓DL.e_ran1, ↓DL.e_ran2, ↓DL.e_comp, ↓DL.e_lenOwn, ↓DL.e_ownM, ↓DL.e_strM, ↓DL.e_split, ↓DL.e_fmt, ↓DL.e_joined, ↓DL.e_js0, ↓DL.e_js, ↓DL.e_noPart, ↓DL.e_part, ↓DL.e_sl, ↓DL.e_xf, ↓DL.e_isE, DL.g_ifT, DL.g_ifF, DL.g_bl, DL.g_int, DL.g_str, DL.g_step, DL.g_some, DL.g_none, DL.g_slst, DL.g_stup, DL.g_sstr, DL.g_sscr, DL.gd_0, DL.gd_s, DL.sd_0, DL.sd_s, DL.g_par, DL.g_tupG, DL.g_vown, DL.g_vval, DL.g_listOft, DL.g_listOfl, DL.g_ran1, DL.g_ran2, DL.wipe_0, DL.wipe_s, DL.g_own, DL.g_append, DL.g_pop, DL.g_joinl, DL.g_joint, DL.g_fmts, DL.g_fmti, DL.g_slt, DL.g_sls, DL.o_int0, DL.o_int, DL.o_addi, DL.o_adds, DL.o_addt, DL.o_addl, DL.o_eqi, DL.o_nei, DL.o_isN, DL.o_notN, DL.o_bl2, DL.o_ixt, DL.o_ixl, DL.o_ixs, DL.o_inss, DL.o_int_, DL.o_inl, DL.l_lent, DL.l_lenl, DL.l_lens, DL.l_abs, DL.l_inti, DL.l_intb, DL.l_str, DL.l_tupt, DL.l_tupl, DL.l_all, DL.l_sum, DL.isB_non, DL.isB_bl, DL.isB_int, DL.isB_str, DL.isB_tup, DL.isB_lst, DL.isN_non, DL.isN_bl, DL.isN_int, DL.isN_str, DL.isN_tup, DL.isN_lst, DL.isN_ins, DL.g_exc, DL.g_gnx, DL.g_grt, DL.g_gbk, DL.g_gct, DL.d_eq1, DL.d_eq0, DL.d_lt1, DL.d_lt0, DL.d_le1, DL.d_le0, DL.at0, DL.at1, DL.at2, DL.at3, DL.at4, DL.at5, DL.kit_nn_int, DL.kit_nn_bool, DL.kit_nn_str, DL.kit_nn_tuple, DL.kit_nn_list, DL.kit_bool_int, DL.kit_bool_bool, DL.kit_bool_str, DL.kit_bool_tuple, DL.kit_bool_list, DL.kit_int_int, DL.kit_int_bool, DL.kit_int_str, DL.kit_int_tuple, DL.kit_int_list, DL.kit_str_int, DL.kit_str_bool, DL.kit_str_str, DL.kit_str_tuple, DL.kit_str_list, DL.kit_tuple_int, DL.kit_tuple_bool, DL.kit_tuple_str, DL.kit_tuple_tuple, DL.kit_tuple_list, DL.kit_list_int, DL.kit_list_bool, DL.kit_list_str, DL.kit_list_tuple, DL.kit_list_list, DL.own_non, DL.own_bl, DL.own_int, DL.own_str, DL.own_tup, DL.own_lst, DL.own_bag, DL.own_scr, DL.own_ins, DL.own_exc, DL.o_eq, DL.o_ne, DL.cmp_int, DL.cmp_bl, DL.cmp_non, DL.eq_int, true_and, and_true, Bool.not_true, Bool.not_false, DL.xcOf, List.length_cons, List.length_nil, DL.startD, List.map_cons, List.map_nil, List.replicate_succ, List.replicate_zero, List.cons_append, List.nil_append, Nat.reduceSub, Nat.reduceAdd, Int.cast_ofNat_Int, Int.natCast_zero, Int.natCast_one, decide_true, decide_false, not_false_eq_true, Int.reduceEq, Int.reduceLT, Int.reduceLE, Int.reduceNeg]
    refine ⟨e8, ?_⟩
    simp -dsimp only [c_truth, te, beq_self_eq_true, okN_own he, ↓DL.e_while, ↓DL.e_seq, ↓DL.e_next, ↓DL.e_break, ↓DL.e_cont, ↓DL.e_drop, ↓DL.e_ret, ↓DL.e_retN, ↓DL.e_ifS, ↓DL.e_set, ↓DL.e_own, ↓DL.e_par, ↓DL.e_asg, ↓DL.e_kName, ↓DL.e_kNil, ↓DL.e_kCons, ↓DL.e_kTup, ↓DL.e_for, ↓DL.e_raise, ↓DL.e_try, ↓DL.e_var, ↓DL.e_c, ↓DL.e_op, ↓DL.e_un, ↓DL.e_if, ↓DL.e_andV, ↓DL.e_orV, ↓DL.e_notV, ↓DL.e_chain, ↓DL.e_B, ↓DL.e_and, ↓DL.e_or, ↓DL.e_not, ↓DL.e_yes, ↓DL.e_isi, ↓DL.e_CB, ↓DL.e_nil, ↓DL.e_cons, ↓DL.e_tup, ↓DL.e_fr, ↓DL.e_lst, ↓DL.e_listOf, ↓DL.e_call, ↓DL.e_seqIt, ↓DL.e_ran1, ↓DL.e_ran2, ↓DL.e_comp, ↓DL.e_lenOwn, ↓DL.e_ownM, ↓DL.e_strM, ↓DL.e_split, ↓DL.e_fmt, ↓DL.e_joined, ↓DL.e_js0, ↓DL.e_js, ↓DL.e_noPart, ↓DL.e_part, ↓DL.e_sl, ↓DL.e_xf, ↓DL.e_isE, DL.g_ifT, DL.g_ifF, DL.g_bl, DL.g_int, DL.g_str, DL.g_step, DL.g_some, DL.g_none, DL.g_slst, DL.g_stup, DL.g_sstr, DL.g_sscr, DL.gd_0, DL.gd_s, DL.sd_0, DL.sd_s, DL.g_par, DL.g_tupG, DL.g_vown, DL.g_vval, DL.g_listOft, DL.g_listOfl, DL.g_ran1, DL.g_ran2, DL.wipe_0, DL.wipe_s, DL.g_own, DL.g_append, DL.g_pop, DL.g_joinl, DL.g_joint, DL.g_fmts, DL.g_fmti, DL.g_slt, DL.g_sls, DL.o_int0, DL.o_int, DL.o_addi, DL.o_adds, DL.o_addt, DL.o_addl, DL.o_eqi, DL.o_nei, DL.o_isN, DL.o_notN, DL.o_bl2, DL.o_ixt, DL.o_ixl, DL.o_ixs, DL.o_inss, DL.o_int_, DL.o_inl, DL.l_lent, DL.l_lenl, DL.l_lens, DL.l_abs, DL.l_inti, DL.l_intb, DL.l_str, DL.l_tupt, DL.l_tupl, DL.l_all, DL.l_sum, DL.isB_non, DL.isB_bl, DL.isB_int, DL.isB_str, DL.isB_tup, DL.isB_lst, DL.isN_non, DL.isN_bl, DL.isN_int, DL.isN_str, DL.isN_tup, DL.isN_lst, DL.isN_ins, DL.g_exc, DL.g_gnx, DL.g_grt, DL.g_gbk, DL.g_gct, DL.d_eq1, DL.d_eq0, DL.d_lt1, DL.d_lt0, DL.d_le1, DL.d_le0, DL.at0, DL.at1, DL.at2, DL.at3, DL.at4, DL.at5, DL.kit_nn_int, DL.kit_nn_bool, DL.kit_nn_str, DL.kit_nn_tuple, DL.kit_nn_list, DL.kit_bool_int, DL.kit_bool_bool, DL.kit_bool_str, DL.kit_bool_tuple, DL.kit_bool_list, DL.kit_int_int, DL.kit_int_bool, DL.kit_int_str, DL.kit_int_tuple, DL.kit_int_list, DL.kit_str_int, DL.kit_str_bool, DL.kit_str_str, DL.kit_str_tuple, DL.kit_str_list, DL.kit_tuple_int, DL.kit_tuple_bool, DL.kit_tuple_str, DL.kit_tuple_tuple, DL.kit_tuple_list, DL.kit_list_int, DL.kit_list_bool, DL.kit_list_str, DL.kit_list_tuple, DL.kit_list_list, DL.own_non, DL.own_bl, DL.own_int, DL.own_str, DL.own_tup, DL.own_lst, DL.own_bag, DL.own_scr, DL.own_ins, DL.own_exc, DL.o_eq, DL.o_ne, DL.cmp_int, DL.cmp_bl, DL.cmp_non, DL.eq_int, true_and, and_true, Bool.not_true, Bool.not_false, DL.xcOf, List.length_cons, List.length_nil, DL.startD, List.map_cons, List.map_nil, List.replicate_succ, List.replicate_zero, List.cons_append, List.nil_append, Nat.reduceSub, Nat.reduceAdd, Int.cast_ofNat_Int, Int.natCast_zero, Int.natCast_one, decide_true, decide_false, not_false_eq_true, Int.reduceEq, Int.reduceLT, Int.reduceLE, Int.reduceNeg]
    refine ⟨e8, ?_⟩
    obtain ⟨l1, l2⟩ := lst_tup 8 e e8
    simp -dsimp only [okN_own he, ↓DL.e_while, ↓DL.e_seq, ↓DL.e_next, ↓DL.e_break, ↓DL.e_cont, ↓DL.e_drop, ↓DL.e_ret, ↓DL.e_retN, ↓DL.e_ifS, ↓DL.e_set, ↓DL.e_own, ↓DL.e_par, ↓DL.e_asg, ↓DL.e_kName, ↓DL.e_kNil, ↓DL.e_kCons, ↓DL.e_kTup, ↓DL.e_for, ↓DL.e_raise, ↓DL.e_try, ↓DL.e_var, ↓DL.e_c, ↓DL.e_op, ↓DL.e_un, ↓DL.e_if, ↓DL.e_andV, ↓DL.e_orV, ↓DL.e_notV, ↓DL.e_chain, ↓DL.e_B, ↓DL.e_and, ↓DL.e_or, ↓DL.e_not, ↓DL.e_yes, ↓DL.e_isi, ↓DL.e_CB, ↓DL.e_nil, ↓DL.e_cons, ↓DL.e_tup, ↓DL.e_fr, ↓DL.e_lst, ↓DL.e_listOf, ↓DL.e_call, ↓DL.e_seqIt, ↓DL.e_ran1, ↓DL.e_ran2, ↓DL.e_comp, ↓DL.e_lenOwn, ↓DL.e_ownM, ↓DL.e_strM, ↓DL.e_split, ↓DL.e_fmt, ↓DL.e_joined, ↓DL.e_js0, ↓DL.e_js, ↓DL.e_noPart, ↓DL.e_part, ↓DL.e_sl, ↓DL.e_xf, ↓DL.e_isE, DL.g_ifT, DL.g_ifF, DL.g_bl, DL.g_int, DL.g_str, DL.g_step, DL.g_some, DL.g_none, DL.g_slst, DL.g_stup, DL.g_sstr, DL.g_sscr, DL.gd_0, DL.gd_s, DL.sd_0, DL.sd_s, DL.g_par, DL.g_tupG, DL.g_vown, DL.g_vval, DL.g_listOft, DL.g_listOfl, DL.g_ran1, DL.g_ran2, DL.wipe_0, DL.wipe_s, DL.g_own, DL.g_append, DL.g_pop, DL.g_joinl, DL.g_joint, DL.g_fmts, DL.g_fmti, DL.g_slt, DL.g_sls, DL.o_int0, DL.o_int, DL.o_addi, DL.o_adds, DL.o_addt, DL.o_addl, DL.o_eqi, DL.o_nei, DL.o_isN, DL.o_notN, DL.o_bl2, DL.o_ixt, DL.o_ixl, DL.o_ixs, DL.o_inss, DL.o_int_, DL.o_inl, DL.l_lent, DL.l_lenl, DL.l_lens, DL.l_abs, DL.l_inti, DL.l_intb, DL.l_str, DL.l_tupt, DL.l_tupl, DL.l_all, DL.l_sum, DL.isB_non, DL.isB_bl, DL.isB_int, DL.isB_str, DL.isB_tup, DL.isB_lst, DL.isN_non, DL.isN_bl, DL.isN_int, DL.isN_str, DL.isN_tup, DL.isN_lst, DL.isN_ins, DL.g_exc, DL.g_gnx, DL.g_grt, DL.g_gbk, DL.g_gct, DL.d_eq1, DL.d_eq0, DL.d_lt1, DL.d_lt0, DL.d_le1, DL.d_le0, DL.at0, DL.at1, DL.at2, DL.at3, DL.at4, DL.at5, DL.kit_nn_int, DL.kit_nn_bool, DL.kit_nn_str, DL.kit_nn_tuple, DL.kit_nn_list, DL.kit_bool_int, DL.kit_bool_bool, DL.kit_bool_str, DL.kit_bool_tuple, DL.kit_bool_list, DL.kit_int_int, DL.kit_int_bool, DL.kit_int_str, DL.kit_int_tuple, DL.kit_int_list, DL.kit_str_int, DL.kit_str_bool, DL.kit_str_str, DL.kit_str_tuple, DL.kit_str_list, DL.kit_tuple_int, DL.kit_tuple_bool, DL.kit_tuple_str, DL.kit_tuple_tuple, DL.kit_tuple_list, DL.kit_list_int, DL.kit_list_bool, DL.kit_list_str, DL.kit_list_tuple, DL.kit_list_list, DL.own_non, DL.own_bl, DL.own_int, DL.own_str, DL.own_tup, DL.own_lst, DL.own_bag, DL.own_scr, DL.own_ins, DL.own_exc, DL.o_eq, DL.o_ne, DL.cmp_int, DL.cmp_bl, DL.cmp_non, DL.eq_int, true_and, and_true, Bool.not_true, Bool.not_false, DL.xcOf, List.length_cons, List.length_nil, DL.startD, List.map_cons, List.map_nil, List.replicate_succ, List.replicate_zero, List.cons_append, List.nil_append, Nat.reduceSub, Nat.reduceAdd, Int.cast_ofNat_Int, Int.natCast_zero, Int.natCast_one, decide_true, decide_false, not_false_eq_true, Int.reduceEq, Int.reduceLT, Int.reduceLE, Int.reduceNeg]
    refine ⟨l1, ?_⟩
    simp -dsimp only [okN_own he, ↓DL.e_while, ↓DL.e_seq, ↓DL.e_next, ↓DL.e_break, ↓DL.e_cont, ↓DL.e_drop, ↓DL.e_ret, ↓DL.e_retN, ↓DL.e_ifS, ↓DL.e_set, ↓DL.e_own, ↓DL.e_par, ↓DL.e_asg, ↓DL.e_kName, ↓DL.e_kNil, ↓DL.e_kCons, ↓DL.e_kTup, ↓DL.e_for, ↓DL.e_raise, ↓DL.e_try, ↓DL.e_var, ↓DL.e_c, ↓DL.e_op, ↓DL.e_un, ↓DL.e_if, ↓DL.e_andV, ↓DL.e_orV, ↓DL.e_notV, ↓DL.e_chain, ↓DL.e_B, ↓DL.e_and, ↓DL.e_or, ↓DL.e_not, ↓DL.e_yes, ↓DL.e_isi, ↓DL.e_CB, ↓DL.e_nil, ↓DL.e_cons, ↓DL.e_tup, ↓DL.e_fr, ↓DL.e_lst, ↓DL.e_listOf, ↓DL.e_call, ↓DL.e_seqIt, ↓DL.e_ran1, ↓DL.e_ran2, ↓DL.e_comp, ↓DL.e_lenOwn, ↓DL.e_ownM, ↓DL.e_strM, ↓DL.e_split, ↓DL.e_fmt, ↓DL.e_joined, ↓DL.e_js0, ↓DL.e_js, ↓DL.e_noPart, ↓DL.e_part, ↓DL.e_sl, ↓DL.e_xf, ↓DL.e_isE, DL.g_ifT, DL.g_ifF, DL.g_bl, DL.g_int, DL.g_str, DL.g_step, DL.g_some, DL.g_none, DL.g_slst, DL.g_stup, DL.g_sstr, DL.g_sscr, DL.gd_0, DL.gd_s, DL.sd_0, DL.sd_s, DL.g_par, DL.g_tupG, DL.g_vown, DL.g_vval, DL.g_listOft, DL.g_listOfl, DL.g_ran1, DL.g_ran2, DL.wipe_0, DL.wipe_s, DL.g_own, DL.g_append, DL.g_pop, DL.g_joinl, DL.g_joint, DL.g_fmts, DL.g_fmti, DL.g_slt, DL.g_sls, DL.o_int0, DL.o_int, DL.o_addi, DL.o_adds, DL.o_addt, DL.o_addl, DL.o_eqi, DL.o_nei, DL.o_isN, DL.o_notN, DL.o_bl2, DL.o_ixt, DL.o_ixl, DL.o_ixs, DL.o_inss, DL.o_int_, DL.o_inl, DL.l_lent, DL.l_lenl, DL.l_lens, DL.l_abs, DL.l_inti, DL.l_intb, DL.l_str, DL.l_tupt, DL.l_tupl, DL.l_all, DL.l_sum, DL.isB_non, DL.isB_bl, DL.isB_int, DL.isB_str, DL.isB_tup, DL.isB_lst, DL.isN_non, DL.isN_bl, DL.isN_int, DL.isN_str, DL.isN_tup, DL.isN_lst, DL.isN_ins, DL.g_exc, DL.g_gnx, DL.g_grt, DL.g_gbk, DL.g_gct, DL.d_eq1, DL.d_eq0, DL.d_lt1, DL.d_lt0, DL.d_le1, DL.d_le0, DL.at0, DL.at1, DL.at2, DL.at3, DL.at4, DL.at5, DL.kit_nn_int, DL.kit_nn_bool, DL.kit_nn_str, DL.kit_nn_tuple, DL.kit_nn_list, DL.kit_bool_int, DL.kit_bool_bool, DL.kit_bool_str, DL.kit_bool_tuple, DL.kit_bool_list, DL.kit_int_int, DL.kit_int_bool, DL.kit_int_str, DL.kit_int_tuple, DL.kit_int_list, DL.kit_str_int, DL.kit_str_bool, DL.kit_str_str, DL.kit_str_tuple, DL.kit_str_list, DL.kit_tuple_int, DL.kit_tuple_bool, DL.kit_tuple_str, DL.kit_tuple_tuple, DL.kit_tuple_list, DL.kit_list_int, DL.kit_list_bool, DL.kit_list_str, DL.kit_list_tuple, DL.kit_list_list, DL.own_non, DL.own_bl, DL.own_int, DL.own_str, DL.own_tup, DL.own_lst, DL.own_bag, DL.own_scr, DL.own_ins, DL.own_exc, DL.o_eq, DL.o_ne, DL.cmp_int, DL.cmp_bl, DL.cmp_non, DL.eq_int, true_and, and_true, Bool.not_true, Bool.not_false, DL.xcOf, List.length_cons, List.length_nil, DL.startD, List.map_cons, List.map_nil, List.replicate_succ, List.replicate_zero, List.cons_append, List.nil_append, Nat.reduceSub, Nat.reduceAdd, Int.cast_ofNat_Int, Int.natCast_zero, Int.natCast_one, decide_true, decide_false, not_false_eq_true, Int.reduceEq, Int.reduceLT, Int.reduceLE, Int.reduceNeg]
    refine ⟨e8, ?_⟩
    simp -dsimp only [c_truth, l2, te, beq_self_eq_true, okN_own he, ↓DL.e_while, ↓DL.e_seq, ↓DL.e_next, ↓DL.e_break, ↓DL.e_cont, ↓DL.e_drop, ↓DL.e_ret, ↓DL.e_retN, ↓DL.e_ifS, ↓DL.e_set, ↓DL.e_own, ↓DL.e_par, ↓DL.e_asg, ↓DL.e_kName, ↓DL.e_kNil, ↓DL.e_kCons, ↓DL.e_kTup, ↓DL.e_for, ↓DL.e_raise, ↓DL.e_try, ↓DL.e_var, ↓DL.e_c, ↓DL.e_op, ↓DL.e_un, ↓DL.e_if, ↓DL.e_andV, ↓DL.e_orV, ↓DL.e_notV, ↓DL.e_chain, ↓DL.e_B, ↓DL.e_and, ↓DL.e_or, ↓DL.e_not, ↓DL.e_yes, ↓DL.e_isi, ↓DL.e_CB, ↓DL.e_nil, ↓DL.e_cons, ↓DL.e_tup, ↓DL.e_fr, ↓DL.e_lst, ↓DL.e_listOf, ↓DL.e_call, ↓DL.e_seqIt, ↓DL.e_ran1, ↓DL.e_ran2, ↓DL.e_comp, ↓DL.e_lenOwn, ↓DL.e_ownM, ↓DL.e_strM, ↓DL.e_split, ↓DL.e_fmt, ↓DL.e_joined, ↓DL.e_js0, ↓DL.e_js, ↓DL.e_noPart, ↓DL.e_part, ↓DL.e_sl, ↓DL.e_xf, ↓DL.e_isE, DL.g_ifT, DL.g_ifF, DL.g_bl, DL.g_int, DL.g_str, DL.g_step, DL.g_some, DL.g_none, DL.g_slst, DL.g_stup, DL.g_sstr, DL.g_sscr, DL.gd_0, DL.gd_s, DL.sd_0, DL.sd_s, DL.g_par, DL.g_tupG, DL.g_vown, DL.g_vval, DL.g_listOft, DL.g_listOfl, DL.g_ran1, DL.g_ran2, DL.wipe_0, DL.wipe_s, DL.g_own, DL.g_append, DL.g_pop, DL.g_joinl, DL.g_joint, DL.g_fmts, DL.g_fmti, DL.g_slt, DL.g_sls, DL.o_int0, DL.o_int, DL.o_addi, DL.o_adds, DL.o_addt, DL.o_addl, DL.o_eqi, DL.o_nei, DL.o_isN, DL.o_notN, DL.o_bl2, DL.o_ixt, DL.o_ixl, DL.o_ixs, DL.o_inss, DL.o_int_, DL.o_inl, DL.l_lent, DL.l_lenl, DL.l_lens, DL.l_abs, DL.l_inti, DL.l_intb, DL.l_str, DL.l_tupt, DL.l_tupl, DL.l_all, DL.l_sum, DL.isB_non, DL.isB_bl, DL.isB_int, DL.isB_str, DL.isB_tup, DL.isB_lst, DL.isN_non, DL.isN_bl, DL.isN_int, DL.isN_str, DL.isN_tup, DL.isN_lst, DL.isN_ins, DL.g_exc, DL.g_gnx, DL.g_grt, DL.g_gbk, DL.g_gct, DL.d_eq1, DL.d_eq0, DL.d_lt1, DL.d_lt0, DL.d_le1, DL.d_le0, DL.at0, DL.at1, DL.at2, DL.at3, DL.at4, DL.at5, DL.kit_nn_int, DL.kit_nn_bool, DL.kit_nn_str, DL.kit_nn_tuple, DL.kit_nn_list, DL.kit_bool_int, DL.kit_bool_bool, DL.kit_bool_str, DL.kit_bool_tuple, DL.kit_bool_list, DL.kit_int_int, DL.kit_int_bool, DL.kit_int_str, DL.kit_int_tuple, DL.kit_int_list, DL.kit_str_int, DL.kit_str_bool, DL.kit_str_str, DL.kit_str_tuple, DL.kit_str_list, DL.kit_tuple_int, DL.kit_tuple_bool, DL.kit_tuple_str, DL.kit_tuple_tuple, DL.kit_tuple_list, DL.kit_list_int, DL.kit_list_bool, DL.kit_list_str, DL.kit_list_tuple, DL.kit_list_list, DL.own_non, DL.own_bl, DL.own_int, DL.own_str, DL.own_tup, DL.own_lst, DL.own_bag, DL.own_scr, DL.own_ins, DL.own_exc, DL.o_eq, DL.o_ne, DL.cmp_int, DL.cmp_bl, DL.cmp_non, DL.eq_int, true_and, and_true, Bool.not_true, Bool.not_false, DL.xcOf, List.length_cons, List.length_nil, DL.startD, List.map_cons, List.map_nil, List.replicate_succ, List.replicate_zero, List.cons_append, List.nil_append, Nat.reduceSub, Nat.reduceAdd, Int.cast_ofNat_Int, Int.natCast_zero, Int.natCast_one, decide_true, decide_false, not_false_eq_true, Int.reduceEq, Int.reduceLT, Int.reduceLE, Int.reduceNeg]
    exact names_loop1 k xs _ _
theorem names_loop2 {X : Str → List D → Prop} {R : Endd} {z z2 : Option D} (k : ∀ y, R.nx [some .bag, z, z2, y]) : ∀ (xs : List Str) (y : Option D), (∀ x ∈ xs, x ∈ reserved) →
    loopD (kName 3) (dIfS (dB (dOp (rBl2 fun i j => !decide (i = j)) (dCall sp_is_name (xcOf X) (dCons (dVar 3) (dNil))) (dC (.bl false)))) (dRet (dC (.bl false))) (dNext)) R (xs.map .str) [some .bag, z, z2, y]
  | [], y, _ => k y
  | x :: xs, y, h => by
    have hx := h x List.mem_cons_self
    obtain ⟨s1, s2⟩ := Bool.and_eq_true_iff.mp (List.all_eq_true.mp res_ok x hx)
    have hf : fitsN (.str x) = false := by
      have e : fitsN (.str x) = (decide (1 ≤ x.length) && decide (x.length ≤ 8) && !(reserved.contains x) && (signs x).all inL) := rfl
      rw [e, List.contains_iff_mem.mpr hx]
      simp
    simp -dsimp only [loopD, ↓DL.e_while, ↓DL.e_seq, ↓DL.e_next, ↓DL.e_break, ↓DL.e_cont, ↓DL.e_drop, ↓DL.e_ret, ↓DL.e_retN, ↓DL.e_ifS, ↓DL.e_set, ↓DL.e_own, ↓DL.e_par, ↓DL.e_asg, ↓DL.e_kName, ↓DL.e_kNil, ↓DL.e_kCons, ↓DL.e_kTup, ↓DL.e_for, ↓DL.e_raise, ↓DL.e_try, ↓DL.e_var, ↓DL.e_c, ↓DL.e_op, ↓DL.e_un, ↓DL.e_if, ↓DL.e_andV, ↓DL.e_orV, ↓DL.e_notV, ↓DL.e_chain, ↓DL.e_B, ↓DL.e_and, ↓DL.e_or, ↓DL.e_not, ↓DL.e_yes, ↓DL.e_isi, ↓DL.e_CB, ↓DL.e_nil, ↓DL.e_cons, ↓DL.e_tup, ↓DL.e_fr, ↓DL.e_lst, ↓DL.e_listOf, ↓DL.e_call, ↓DL.e_seqIt, ↓DL.e_ran1, ↓DL.e_ran2, ↓DL.e_comp, ↓DL.e_lenOwn, ↓DL.e_ownM, ↓DL.e_strM, ↓DL.e_split, ↓DL.e_fmt, ↓DL.e_joined, ↓DL.e_js0, ↓DL.e_js, ↓DL.e_noPart, ↓DL.e_part, ↓DL.e_sl, ↓DL.e_xf, ↓DL.e_isE, DL.g_ifT, DL.g_ifF, DL.g_bl, DL.g_int, DL.g_str, DL.g_step, DL.g_some, DL.g_none, DL.g_slst, DL.g_stup, DL.g_sstr, DL.g_sscr, DL.gd_0, DL.gd_s, DL.sd_0, DL.sd_s, DL.g_par, DL.g_tupG, DL.g_vown, DL.g_vval, DL.g_listOft, DL.g_listOfl, DL.g_ran1, DL.g_ran2, DL.wipe_0, DL.wipe_s, DL.g_own, DL.g_append, DL.g_pop, DL.g_joinl, DL.g_joint, DL.g_fmts, DL.g_fmti, DL.g_slt, DL.g_sls, DL.o_int0, DL.o_int, DL.o_addi, DL.o_adds, DL.o_addt, DL.o_addl, DL.o_eqi, DL.o_nei, DL.o_isN, DL.o_notN, DL.o_bl2, DL.o_ixt, DL.o_ixl, DL.o_ixs, DL.o_inss, DL.o_int_, DL.o_inl, DL.l_lent, DL.l_lenl, DL.l_lens, DL.l_abs, DL.l_inti, DL.l_intb, DL.l_str, DL.l_tupt, DL.l_tupl, DL.l_all, DL.l_sum, DL.isB_non, DL.isB_bl, DL.isB_int, DL.isB_str, DL.isB_tup, DL.isB_lst, DL.isN_non, DL.isN_bl, DL.isN_int, DL.isN_str, DL.isN_tup, DL.isN_lst, DL.isN_ins, DL.g_exc, DL.g_gnx, DL.g_grt, DL.g_gbk, DL.g_gct, DL.d_eq1, DL.d_eq0, DL.d_lt1, DL.d_lt0, DL.d_le1, DL.d_le0, DL.at0, DL.at1, DL.at2, DL.at3, DL.at4, DL.at5, DL.kit_nn_int, DL.kit_nn_bool, DL.kit_nn_str, DL.kit_nn_tuple, DL.kit_nn_list, DL.kit_bool_int, DL.kit_bool_bool, DL.kit_bool_str, DL.kit_bool_tuple, DL.kit_bool_list, DL.kit_int_int, DL.kit_int_bool, DL.kit_int_str, DL.kit_int_tuple, DL.kit_int_list, DL.kit_str_int, DL.kit_str_bool, DL.kit_str_str, DL.kit_str_tuple, DL.kit_str_list, DL.kit_tuple_int, DL.kit_tuple_bool, DL.kit_tuple_str, DL.kit_tuple_tuple, DL.kit_tuple_list, DL.kit_list_int, DL.kit_list_bool, DL.kit_list_str, DL.kit_list_tuple, DL.kit_list_list, DL.own_non, DL.own_bl, DL.own_int, DL.own_str, DL.own_tup, DL.own_lst, DL.own_bag, DL.own_scr, DL.own_ins, DL.own_exc, DL.o_eq, DL.o_ne, DL.cmp_int, DL.cmp_bl, DL.cmp_non, DL.eq_int, true_and, and_true, Bool.not_true, Bool.not_false, DL.xcOf, List.length_cons, List.length_nil, DL.startD, List.map_cons, List.map_nil, List.replicate_succ, List.replicate_zero, List.cons_append, List.nil_append, Nat.reduceSub, Nat.reduceAdd, Int.cast_ofNat_Int, Int.natCast_zero, Int.natCast_one, decide_true, decide_false, not_false_eq_true, Int.reduceEq, Int.reduceLT, Int.reduceLE, Int.reduceNeg]
    refine ⟨okN_mono (okS (by have := of_decide_eq_true s1; omega) s2) (by omega), ?_⟩
    simp -dsimp only [hf, decide_true, ↓DL.e_while, ↓DL.e_seq, ↓DL.e_next, ↓DL.e_break, ↓DL.e_cont, ↓DL.e_drop, ↓DL.e_ret, ↓DL.e_retN, ↓DL.e_ifS, ↓DL.e_set, ↓DL.e_own, ↓DL.e_par, ↓DL.e_asg, ↓DL.e_kName, ↓DL.e_kNil, ↓DL.e_kCons, ↓DL.e_kTup, ↓DL.e_for, ↓DL.e_raise, ↓DL.e_try, ↓DL.e_var, ↓DL.e_c, ↓DL.e_op, ↓DL.e_un, ↓DL.e_if, ↓DL.e_andV, ↓DL.e_orV, ↓DL.e_notV, ↓DL.e_chain, ↓DL.e_B, ↓DL.e_and, ↓DL.e_or, ↓DL.e_not, ↓DL.e_yes, ↓DL.e_isi, ↓DL.e_CB, ↓DL.e_nil, ↓DL.e_cons, ↓DL.e_tup, ↓DL.e_fr, ↓DL.e_lst, ↓DL.e_listOf, ↓DL.e_call, ↓DL.e_seqIt, ↓DL.e_ran1, ↓DL.e_ran2, ↓DL.e_comp, ↓DL.e_lenOwn, ↓DL.e_ownM, ↓DL.e_strM, ↓DL.e_split, ↓DL.e_fmt, ↓DL.e_joined, ↓DL.e_js0, ↓DL.e_js, ↓DL.e_noPart, ↓DL.e_part, ↓DL.e_sl, ↓DL.e_xf, ↓DL.e_isE, DL.g_ifT, DL.g_ifF, DL.g_bl, DL.g_int, DL.g_str, DL.g_step, DL.g_some, DL.g_none, DL.g_slst, DL.g_stup, DL.g_sstr, DL.g_sscr, DL.gd_0, DL.gd_s, DL.sd_0, DL.sd_s, DL.g_par, DL.g_tupG, DL.g_vown, DL.g_vval, DL.g_listOft, DL.g_listOfl, DL.g_ran1, DL.g_ran2, DL.wipe_0, DL.wipe_s, DL.g_own, DL.g_append, DL.g_pop, DL.g_joinl, DL.g_joint, DL.g_fmts, DL.g_fmti, DL.g_slt, DL.g_sls, DL.o_int0, DL.o_int, DL.o_addi, DL.o_adds, DL.o_addt, DL.o_addl, DL.o_eqi, DL.o_nei, DL.o_isN, DL.o_notN, DL.o_bl2, DL.o_ixt, DL.o_ixl, DL.o_ixs, DL.o_inss, DL.o_int_, DL.o_inl, DL.l_lent, DL.l_lenl, DL.l_lens, DL.l_abs, DL.l_inti, DL.l_intb, DL.l_str, DL.l_tupt, DL.l_tupl, DL.l_all, DL.l_sum, DL.isB_non, DL.isB_bl, DL.isB_int, DL.isB_str, DL.isB_tup, DL.isB_lst, DL.isN_non, DL.isN_bl, DL.isN_int, DL.isN_str, DL.isN_tup, DL.isN_lst, DL.isN_ins, DL.g_exc, DL.g_gnx, DL.g_grt, DL.g_gbk, DL.g_gct, DL.d_eq1, DL.d_eq0, DL.d_lt1, DL.d_lt0, DL.d_le1, DL.d_le0, DL.at0, DL.at1, DL.at2, DL.at3, DL.at4, DL.at5, DL.kit_nn_int, DL.kit_nn_bool, DL.kit_nn_str, DL.kit_nn_tuple, DL.kit_nn_list, DL.kit_bool_int, DL.kit_bool_bool, DL.kit_bool_str, DL.kit_bool_tuple, DL.kit_bool_list, DL.kit_int_int, DL.kit_int_bool, DL.kit_int_str, DL.kit_int_tuple, DL.kit_int_list, DL.kit_str_int, DL.kit_str_bool, DL.kit_str_str, DL.kit_str_tuple, DL.kit_str_list, DL.kit_tuple_int, DL.kit_tuple_bool, DL.kit_tuple_str, DL.kit_tuple_tuple, DL.kit_tuple_list, DL.kit_list_int, DL.kit_list_bool, DL.kit_list_str, DL.kit_list_tuple, DL.kit_list_list, DL.own_non, DL.own_bl, DL.own_int, DL.own_str, DL.own_tup, DL.own_lst, DL.own_bag, DL.own_scr, DL.own_ins, DL.own_exc, DL.o_eq, DL.o_ne, DL.cmp_int, DL.cmp_bl, DL.cmp_non, DL.eq_int, true_and, and_true, Bool.not_true, Bool.not_false, DL.xcOf, List.length_cons, List.length_nil, DL.startD, List.map_cons, List.map_nil, List.replicate_succ, List.replicate_zero, List.cons_append, List.nil_append, Nat.reduceSub, Nat.reduceAdd, Int.cast_ofNat_Int, Int.natCast_zero, Int.natCast_one, decide_true, decide_false, not_false_eq_true, Int.reduceEq, Int.reduceLT, Int.reduceLE, Int.reduceNeg]
    exact names_loop2 k xs _ fun y hy => h y (List.mem_cons_of_mem _ hy)
theorem rd__law_names_right {ds Q X} (h : sp__law_names_right ds Q X) : t__law_names_right X (endD Q) (startD 4 ds) := by
  match ds, h with
  | [.bag], q =>
    (unfold t__law_names_right; walk_at "run")
    refine ⟨⟨by decide, by decide⟩, names_loop1 (X := X) (fun z z2 => ?_) _ none none⟩
    simp -dsimp only [c_res, ↓DL.e_while, ↓DL.e_seq, ↓DL.e_next, ↓DL.e_break, ↓DL.e_cont, ↓DL.e_drop, ↓DL.e_ret, ↓DL.e_retN, ↓DL.e_ifS, ↓DL.e_set, ↓DL.e_own, ↓DL.e_par, ↓DL.e_asg, ↓DL.e_kName, ↓DL.e_kNil, ↓DL.e_kCons, ↓DL.e_kTup, ↓DL.e_for, ↓DL.e_raise, ↓DL.e_try, ↓DL.e_var, ↓DL.e_c, ↓DL.e_op, ↓DL.e_un, ↓DL.e_if, ↓DL.e_andV, ↓DL.e_orV, ↓DL.e_notV, ↓DL.e_chain, ↓DL.e_B, ↓DL.e_and, ↓DL.e_or, ↓DL.e_not, ↓DL.e_yes, ↓DL.e_isi, ↓DL.e_CB, ↓DL.e_nil, ↓DL.e_cons, ↓DL.e_tup, ↓DL.e_fr, ↓DL.e_lst, ↓DL.e_listOf, ↓DL.e_call, ↓DL.e_seqIt, ↓DL.e_ran1, ↓DL.e_ran2, ↓DL.e_comp, ↓DL.e_lenOwn, ↓DL.e_ownM, ↓DL.e_strM, ↓DL.e_split, ↓DL.e_fmt, ↓DL.e_joined, ↓DL.e_js0, ↓DL.e_js, ↓DL.e_noPart, ↓DL.e_part, ↓DL.e_sl, ↓DL.e_xf, ↓DL.e_isE, DL.g_ifT, DL.g_ifF, DL.g_bl, DL.g_int, DL.g_str, DL.g_step, DL.g_some, DL.g_none, DL.g_slst, DL.g_stup, DL.g_sstr, DL.g_sscr, DL.gd_0, DL.gd_s, DL.sd_0, DL.sd_s, DL.g_par, DL.g_tupG, DL.g_vown, DL.g_vval, DL.g_listOft, DL.g_listOfl, DL.g_ran1, DL.g_ran2, DL.wipe_0, DL.wipe_s, DL.g_own, DL.g_append, DL.g_pop, DL.g_joinl, DL.g_joint, DL.g_fmts, DL.g_fmti, DL.g_slt, DL.g_sls, DL.o_int0, DL.o_int, DL.o_addi, DL.o_adds, DL.o_addt, DL.o_addl, DL.o_eqi, DL.o_nei, DL.o_isN, DL.o_notN, DL.o_bl2, DL.o_ixt, DL.o_ixl, DL.o_ixs, DL.o_inss, DL.o_int_, DL.o_inl, DL.l_lent, DL.l_lenl, DL.l_lens, DL.l_abs, DL.l_inti, DL.l_intb, DL.l_str, DL.l_tupt, DL.l_tupl, DL.l_all, DL.l_sum, DL.isB_non, DL.isB_bl, DL.isB_int, DL.isB_str, DL.isB_tup, DL.isB_lst, DL.isN_non, DL.isN_bl, DL.isN_int, DL.isN_str, DL.isN_tup, DL.isN_lst, DL.isN_ins, DL.g_exc, DL.g_gnx, DL.g_grt, DL.g_gbk, DL.g_gct, DL.d_eq1, DL.d_eq0, DL.d_lt1, DL.d_lt0, DL.d_le1, DL.d_le0, DL.at0, DL.at1, DL.at2, DL.at3, DL.at4, DL.at5, DL.kit_nn_int, DL.kit_nn_bool, DL.kit_nn_str, DL.kit_nn_tuple, DL.kit_nn_list, DL.kit_bool_int, DL.kit_bool_bool, DL.kit_bool_str, DL.kit_bool_tuple, DL.kit_bool_list, DL.kit_int_int, DL.kit_int_bool, DL.kit_int_str, DL.kit_int_tuple, DL.kit_int_list, DL.kit_str_int, DL.kit_str_bool, DL.kit_str_str, DL.kit_str_tuple, DL.kit_str_list, DL.kit_tuple_int, DL.kit_tuple_bool, DL.kit_tuple_str, DL.kit_tuple_tuple, DL.kit_tuple_list, DL.kit_list_int, DL.kit_list_bool, DL.kit_list_str, DL.kit_list_tuple, DL.kit_list_list, DL.own_non, DL.own_bl, DL.own_int, DL.own_str, DL.own_tup, DL.own_lst, DL.own_bag, DL.own_scr, DL.own_ins, DL.own_exc, DL.o_eq, DL.o_ne, DL.cmp_int, DL.cmp_bl, DL.cmp_non, DL.eq_int, true_and, and_true, Bool.not_true, Bool.not_false, DL.xcOf, List.length_cons, List.length_nil, DL.startD, List.map_cons, List.map_nil, List.replicate_succ, List.replicate_zero, List.cons_append, List.nil_append, Nat.reduceSub, Nat.reduceAdd, Int.cast_ofNat_Int, Int.natCast_zero, Int.natCast_one, decide_true, decide_false, not_false_eq_true, Int.reduceEq, Int.reduceLT, Int.reduceLE, Int.reduceNeg]
    refine names_loop2 (X := X) (fun y => ?_) reserved none fun x hx => hx
    simp -dsimp only [cWORDS, ↓DL.e_while, ↓DL.e_seq, ↓DL.e_next, ↓DL.e_break, ↓DL.e_cont, ↓DL.e_drop, ↓DL.e_ret, ↓DL.e_retN, ↓DL.e_ifS, ↓DL.e_set, ↓DL.e_own, ↓DL.e_par, ↓DL.e_asg, ↓DL.e_kName, ↓DL.e_kNil, ↓DL.e_kCons, ↓DL.e_kTup, ↓DL.e_for, ↓DL.e_raise, ↓DL.e_try, ↓DL.e_var, ↓DL.e_c, ↓DL.e_op, ↓DL.e_un, ↓DL.e_if, ↓DL.e_andV, ↓DL.e_orV, ↓DL.e_notV, ↓DL.e_chain, ↓DL.e_B, ↓DL.e_and, ↓DL.e_or, ↓DL.e_not, ↓DL.e_yes, ↓DL.e_isi, ↓DL.e_CB, ↓DL.e_nil, ↓DL.e_cons, ↓DL.e_tup, ↓DL.e_fr, ↓DL.e_lst, ↓DL.e_listOf, ↓DL.e_call, ↓DL.e_seqIt, ↓DL.e_ran1, ↓DL.e_ran2, ↓DL.e_comp, ↓DL.e_lenOwn, ↓DL.e_ownM, ↓DL.e_strM, ↓DL.e_split, ↓DL.e_fmt, ↓DL.e_joined, ↓DL.e_js0, ↓DL.e_js, ↓DL.e_noPart, ↓DL.e_part, ↓DL.e_sl, ↓DL.e_xf, ↓DL.e_isE, DL.g_ifT, DL.g_ifF, DL.g_bl, DL.g_int, DL.g_str, DL.g_step, DL.g_some, DL.g_none, DL.g_slst, DL.g_stup, DL.g_sstr, DL.g_sscr, DL.gd_0, DL.gd_s, DL.sd_0, DL.sd_s, DL.g_par, DL.g_tupG, DL.g_vown, DL.g_vval, DL.g_listOft, DL.g_listOfl, DL.g_ran1, DL.g_ran2, DL.wipe_0, DL.wipe_s, DL.g_own, DL.g_append, DL.g_pop, DL.g_joinl, DL.g_joint, DL.g_fmts, DL.g_fmti, DL.g_slt, DL.g_sls, DL.o_int0, DL.o_int, DL.o_addi, DL.o_adds, DL.o_addt, DL.o_addl, DL.o_eqi, DL.o_nei, DL.o_isN, DL.o_notN, DL.o_bl2, DL.o_ixt, DL.o_ixl, DL.o_ixs, DL.o_inss, DL.o_int_, DL.o_inl, DL.l_lent, DL.l_lenl, DL.l_lens, DL.l_abs, DL.l_inti, DL.l_intb, DL.l_str, DL.l_tupt, DL.l_tupl, DL.l_all, DL.l_sum, DL.isB_non, DL.isB_bl, DL.isB_int, DL.isB_str, DL.isB_tup, DL.isB_lst, DL.isN_non, DL.isN_bl, DL.isN_int, DL.isN_str, DL.isN_tup, DL.isN_lst, DL.isN_ins, DL.g_exc, DL.g_gnx, DL.g_grt, DL.g_gbk, DL.g_gct, DL.d_eq1, DL.d_eq0, DL.d_lt1, DL.d_lt0, DL.d_le1, DL.d_le0, DL.at0, DL.at1, DL.at2, DL.at3, DL.at4, DL.at5, DL.kit_nn_int, DL.kit_nn_bool, DL.kit_nn_str, DL.kit_nn_tuple, DL.kit_nn_list, DL.kit_bool_int, DL.kit_bool_bool, DL.kit_bool_str, DL.kit_bool_tuple, DL.kit_bool_list, DL.kit_int_int, DL.kit_int_bool, DL.kit_int_str, DL.kit_int_tuple, DL.kit_int_list, DL.kit_str_int, DL.kit_str_bool, DL.kit_str_str, DL.kit_str_tuple, DL.kit_str_list, DL.kit_tuple_int, DL.kit_tuple_bool, DL.kit_tuple_str, DL.kit_tuple_tuple, DL.kit_tuple_list, DL.kit_list_int, DL.kit_list_bool, DL.kit_list_str, DL.kit_list_tuple, DL.kit_list_list, DL.own_non, DL.own_bl, DL.own_int, DL.own_str, DL.own_tup, DL.own_lst, DL.own_bag, DL.own_scr, DL.own_ins, DL.own_exc, DL.o_eq, DL.o_ne, DL.cmp_int, DL.cmp_bl, DL.cmp_non, DL.eq_int, true_and, and_true, Bool.not_true, Bool.not_false, DL.xcOf, List.length_cons, List.length_nil, DL.startD, List.map_cons, List.map_nil, List.replicate_succ, List.replicate_zero, List.cons_append, List.nil_append, Nat.reduceSub, Nat.reduceAdd, Int.cast_ofNat_Int, Int.natCast_zero, Int.natCast_one, decide_true, decide_false, not_false_eq_true, Int.reduceEq, Int.reduceLT, Int.reduceLE, Int.reduceNeg]
    refine ⟨by decide +kernel, ?_⟩
    have e : plainB (.tup (reserved.map .str)) = true := plain_words
    simp -dsimp only [e, c_res, ↓DL.e_while, ↓DL.e_seq, ↓DL.e_next, ↓DL.e_break, ↓DL.e_cont, ↓DL.e_drop, ↓DL.e_ret, ↓DL.e_retN, ↓DL.e_ifS, ↓DL.e_set, ↓DL.e_own, ↓DL.e_par, ↓DL.e_asg, ↓DL.e_kName, ↓DL.e_kNil, ↓DL.e_kCons, ↓DL.e_kTup, ↓DL.e_for, ↓DL.e_raise, ↓DL.e_try, ↓DL.e_var, ↓DL.e_c, ↓DL.e_op, ↓DL.e_un, ↓DL.e_if, ↓DL.e_andV, ↓DL.e_orV, ↓DL.e_notV, ↓DL.e_chain, ↓DL.e_B, ↓DL.e_and, ↓DL.e_or, ↓DL.e_not, ↓DL.e_yes, ↓DL.e_isi, ↓DL.e_CB, ↓DL.e_nil, ↓DL.e_cons, ↓DL.e_tup, ↓DL.e_fr, ↓DL.e_lst, ↓DL.e_listOf, ↓DL.e_call, ↓DL.e_seqIt, ↓DL.e_ran1, ↓DL.e_ran2, ↓DL.e_comp, ↓DL.e_lenOwn, ↓DL.e_ownM, ↓DL.e_strM, ↓DL.e_split, ↓DL.e_fmt, ↓DL.e_joined, ↓DL.e_js0, ↓DL.e_js, ↓DL.e_noPart, ↓DL.e_part, ↓DL.e_sl, ↓DL.e_xf, ↓DL.e_isE, DL.g_ifT, DL.g_ifF, DL.g_bl, DL.g_int, DL.g_str, DL.g_step, DL.g_some, DL.g_none, DL.g_slst, DL.g_stup, DL.g_sstr, DL.g_sscr, DL.gd_0, DL.gd_s, DL.sd_0, DL.sd_s, DL.g_par, DL.g_tupG, DL.g_vown, DL.g_vval, DL.g_listOft, DL.g_listOfl, DL.g_ran1, DL.g_ran2, DL.wipe_0, DL.wipe_s, DL.g_own, DL.g_append, DL.g_pop, DL.g_joinl, DL.g_joint, DL.g_fmts, DL.g_fmti, DL.g_slt, DL.g_sls, DL.o_int0, DL.o_int, DL.o_addi, DL.o_adds, DL.o_addt, DL.o_addl, DL.o_eqi, DL.o_nei, DL.o_isN, DL.o_notN, DL.o_bl2, DL.o_ixt, DL.o_ixl, DL.o_ixs, DL.o_inss, DL.o_int_, DL.o_inl, DL.l_lent, DL.l_lenl, DL.l_lens, DL.l_abs, DL.l_inti, DL.l_intb, DL.l_str, DL.l_tupt, DL.l_tupl, DL.l_all, DL.l_sum, DL.isB_non, DL.isB_bl, DL.isB_int, DL.isB_str, DL.isB_tup, DL.isB_lst, DL.isN_non, DL.isN_bl, DL.isN_int, DL.isN_str, DL.isN_tup, DL.isN_lst, DL.isN_ins, DL.g_exc, DL.g_gnx, DL.g_grt, DL.g_gbk, DL.g_gct, DL.d_eq1, DL.d_eq0, DL.d_lt1, DL.d_lt0, DL.d_le1, DL.d_le0, DL.at0, DL.at1, DL.at2, DL.at3, DL.at4, DL.at5, DL.kit_nn_int, DL.kit_nn_bool, DL.kit_nn_str, DL.kit_nn_tuple, DL.kit_nn_list, DL.kit_bool_int, DL.kit_bool_bool, DL.kit_bool_str, DL.kit_bool_tuple, DL.kit_bool_list, DL.kit_int_int, DL.kit_int_bool, DL.kit_int_str, DL.kit_int_tuple, DL.kit_int_list, DL.kit_str_int, DL.kit_str_bool, DL.kit_str_str, DL.kit_str_tuple, DL.kit_str_list, DL.kit_tuple_int, DL.kit_tuple_bool, DL.kit_tuple_str, DL.kit_tuple_tuple, DL.kit_tuple_list, DL.kit_list_int, DL.kit_list_bool, DL.kit_list_str, DL.kit_list_tuple, DL.kit_list_list, DL.own_non, DL.own_bl, DL.own_int, DL.own_str, DL.own_tup, DL.own_lst, DL.own_bag, DL.own_scr, DL.own_ins, DL.own_exc, DL.o_eq, DL.o_ne, DL.cmp_int, DL.cmp_bl, DL.cmp_non, DL.eq_int, true_and, and_true, Bool.not_true, Bool.not_false, DL.xcOf, List.length_cons, List.length_nil, DL.startD, List.map_cons, List.map_nil, List.replicate_succ, List.replicate_zero, List.cons_append, List.nil_append, Nat.reduceSub, Nat.reduceAdd, Int.cast_ofNat_Int, Int.natCast_zero, Int.natCast_one, decide_true, decide_false, not_false_eq_true, Int.reduceEq, Int.reduceLT, Int.reduceLE, Int.reduceNeg]
    refine ⟨cmp_wordsl, cmp_wordsl, ?_⟩
    rw [show eqB (.lst (reserved.map .str)) (.lst (reserved.map .str)) = true by decide +kernel]
    exact q
end K01

set_option Elab.async false
set_option linter.all false
set_option maxRecDepth 100000
set_option maxHeartbeats 4000000
/-! K01v: the readings keep the promises, four. -/
namespace K01
open PySem PySem.Spec L2 DL
/-! ### values that are equal to themselves -/
theorem eq_self_all : ∀ (n : Nat) (d : D), okN n d = true → eqB d d = true := by
  intro n
  induction n with
  | zero =>
    intro d h
    cases d <;> simp only [okN, Bool.false_eq_true] at h <;> first | rfl | simp [eqB]
  | succ n ih =>
    have key : ∀ xs : List D, xs.all (okN n) = true → eqBs xs xs = true := by
      intro xs
      induction xs with
      | nil => intro _; rfl
      | cons x xs ih2 =>
        intro h
        rw [List.all_cons, Bool.and_eq_true] at h
        rw [eqBs, ih x h.1, ih2 h.2]; rfl
    intro d h
    cases d <;> simp only [okN, Bool.false_eq_true, Bool.and_eq_true] at h <;> first | rfl | (simp [eqB]; done) | (rw [eqB]; exact key _ h.2)
theorem rOf_ok {t b : Int} : okN 1 (rOf t b) = true := rfl
theorem rOf_cmp {t b : Int} : cmpOk (rOf t b) := okN_cmp (n := 1) rfl (by decide)
theorem rOf_plain {t b : Int} : plainB (rOf t b) = true := rfl
theorem rOf_eqB {t b : Int} : eqB (rOf t b) (rOf t b) = true := eq_self_all 1 _ rfl
theorem rOf_own {t b : Int} : isOwn (rOf t b) = false := by unfold rOf isOwn; rfl
/-! ### made right -/
theorem made_tup (t l : Int) : ∃ a b c, madeD t l = .tup [a, b, c, .bl true] ∧ okN 2 (.tup [a, b, c, .bl true]) = true ∧ plainB (.tup [a, b, c]) = true ∧ okN 2 (.tup [a, b, c]) = true := by
  have s1 : strOkD "refused" = true := by decide +kernel
  have s2 : strOkD "made" = true := by decide +kernel
  have l1 : (Str.ofString "refused").length ≤ 1000 := by decide
  have l2 : (Str.ofString "made").length ≤ 1000 := by decide
  unfold madeD
  split
  · exact ⟨_, _, _, rfl, by simp [okN, s1, l1], by rfl, by simp [okN, s1, l1]⟩
  · split
    · exact ⟨_, _, _, rfl, by simp [okN, s2, l2, rOf], by rfl, by simp [okN, s2, l2, rOf]⟩
    · exact ⟨_, _, _, rfl, by simp [okN, s2, l2, rOf], by rfl, by simp [okN, s2, l2, rOf]⟩
theorem rOf_one {t : Int} : rOf t 1 = .tup [.int t, .int 1] := by
  refine rOf_self ?_
  have h1 := gcdI_pos (a := t) (b := 1) (by decide)
  have h2 := gcdI_le (a := t) (b := 1) (by decide)
  omega
theorem bd_small {x : Int} (h : x.natAbs ≤ 2 * 10 ^ 39) : bd x := Nat.lt_of_le_of_lt h (Nat.lt_of_lt_of_le (show 2 * 10 ^ 39 < 2 ^ 200 by decide) (Nat.pow_le_pow_right (by decide) (by decide)))
theorem cut3 {a b c d : D} : cutD [a, b, c, d] none (some 3) = [a, b, c] := by rfl
theorem made_tail {Q : D → Prop} {X : Str → List D → Prop} {size t l : Int} {z z2 : Option D} (hl : l.natAbs ≤ 2 * 10 ^ 39) (q : Q (.bl true)) : t__law_made_right_7 X (endD Q) [some .bag, some (.int size), some (.int t), some (.int l), some (madeD t l), z, z2] := by
  (unfold t__law_made_right_7; walk_at "run")
  refine ⟨bd_small hl, ?_⟩
  obtain ⟨a, b, c, e, k1, k2, k3⟩ := made_tup t l
  rw [e]
  (unfold t__law_made_right_8; walk_at "run")
  refine ⟨okN_cmp k1 (by decide), okN_cmp k1 (by decide), ?_⟩
  simp -dsimp only [eq_self_all 2 _ k1, cut3, ↓DL.e_while, ↓DL.e_seq, ↓DL.e_next, ↓DL.e_break, ↓DL.e_cont, ↓DL.e_drop, ↓DL.e_ret, ↓DL.e_retN, ↓DL.e_ifS, ↓DL.e_set, ↓DL.e_own, ↓DL.e_par, ↓DL.e_asg, ↓DL.e_kName, ↓DL.e_kNil, ↓DL.e_kCons, ↓DL.e_kTup, ↓DL.e_for, ↓DL.e_raise, ↓DL.e_try, ↓DL.e_var, ↓DL.e_c, ↓DL.e_op, ↓DL.e_un, ↓DL.e_if, ↓DL.e_andV, ↓DL.e_orV, ↓DL.e_notV, ↓DL.e_chain, ↓DL.e_B, ↓DL.e_and, ↓DL.e_or, ↓DL.e_not, ↓DL.e_yes, ↓DL.e_isi, ↓DL.e_CB, ↓DL.e_nil, ↓DL.e_cons, ↓DL.e_tup, ↓DL.e_fr, ↓DL.e_lst, ↓DL.e_listOf, ↓DL.e_call, ↓DL.e_seqIt, ↓DL.e_ran1, ↓DL.e_ran2, ↓DL.e_comp, ↓DL.e_lenOwn, ↓DL.e_ownM, ↓DL.e_strM, ↓DL.e_split, ↓DL.e_fmt, ↓DL.e_joined, ↓DL.e_js0, ↓DL.e_js, ↓DL.e_noPart, ↓DL.e_part, ↓DL.e_sl, ↓DL.e_xf, ↓DL.e_isE, DL.g_ifT, DL.g_ifF, DL.g_bl, DL.g_int, DL.g_str, DL.g_step, DL.g_some, DL.g_none, DL.g_slst, DL.g_stup, DL.g_sstr, DL.g_sscr, DL.gd_0, DL.gd_s, DL.sd_0, DL.sd_s, DL.g_par, DL.g_tupG, DL.g_vown, DL.g_vval, DL.g_listOft, DL.g_listOfl, DL.g_ran1, DL.g_ran2, DL.wipe_0, DL.wipe_s, DL.g_own, DL.g_append, DL.g_pop, DL.g_joinl, DL.g_joint, DL.g_fmts, DL.g_fmti, DL.g_slt, DL.g_sls, DL.o_int0, DL.o_int, DL.o_addi, DL.o_adds, DL.o_addt, DL.o_addl, DL.o_eqi, DL.o_nei, DL.o_isN, DL.o_notN, DL.o_bl2, DL.o_ixt, DL.o_ixl, DL.o_ixs, DL.o_inss, DL.o_int_, DL.o_inl, DL.l_lent, DL.l_lenl, DL.l_lens, DL.l_abs, DL.l_inti, DL.l_intb, DL.l_str, DL.l_tupt, DL.l_tupl, DL.l_all, DL.l_sum, DL.isB_non, DL.isB_bl, DL.isB_int, DL.isB_str, DL.isB_tup, DL.isB_lst, DL.isN_non, DL.isN_bl, DL.isN_int, DL.isN_str, DL.isN_tup, DL.isN_lst, DL.isN_ins, DL.g_exc, DL.g_gnx, DL.g_grt, DL.g_gbk, DL.g_gct, DL.d_eq1, DL.d_eq0, DL.d_lt1, DL.d_lt0, DL.d_le1, DL.d_le0, DL.at0, DL.at1, DL.at2, DL.at3, DL.at4, DL.at5, DL.kit_nn_int, DL.kit_nn_bool, DL.kit_nn_str, DL.kit_nn_tuple, DL.kit_nn_list, DL.kit_bool_int, DL.kit_bool_bool, DL.kit_bool_str, DL.kit_bool_tuple, DL.kit_bool_list, DL.kit_int_int, DL.kit_int_bool, DL.kit_int_str, DL.kit_int_tuple, DL.kit_int_list, DL.kit_str_int, DL.kit_str_bool, DL.kit_str_str, DL.kit_str_tuple, DL.kit_str_list, DL.kit_tuple_int, DL.kit_tuple_bool, DL.kit_tuple_str, DL.kit_tuple_tuple, DL.kit_tuple_list, DL.kit_list_int, DL.kit_list_bool, DL.kit_list_str, DL.kit_list_tuple, DL.kit_list_list, DL.own_non, DL.own_bl, DL.own_int, DL.own_str, DL.own_tup, DL.own_lst, DL.own_bag, DL.own_scr, DL.own_ins, DL.own_exc, DL.o_eq, DL.o_ne, DL.cmp_int, DL.cmp_bl, DL.cmp_non, DL.eq_int, true_and, and_true, Bool.not_true, Bool.not_false, DL.xcOf, List.length_cons, List.length_nil, DL.startD, List.map_cons, List.map_nil, List.replicate_succ, List.replicate_zero, List.cons_append, List.nil_append, Nat.reduceSub, Nat.reduceAdd, Int.cast_ofNat_Int, Int.natCast_zero, Int.natCast_one, decide_true, decide_false, not_false_eq_true, Int.reduceEq, Int.reduceLT, Int.reduceLE, Int.reduceNeg]
  refine ⟨okN_mono k3 (by decide), ?_⟩
  simp -dsimp only [k2, ↓DL.e_while, ↓DL.e_seq, ↓DL.e_next, ↓DL.e_break, ↓DL.e_cont, ↓DL.e_drop, ↓DL.e_ret, ↓DL.e_retN, ↓DL.e_ifS, ↓DL.e_set, ↓DL.e_own, ↓DL.e_par, ↓DL.e_asg, ↓DL.e_kName, ↓DL.e_kNil, ↓DL.e_kCons, ↓DL.e_kTup, ↓DL.e_for, ↓DL.e_raise, ↓DL.e_try, ↓DL.e_var, ↓DL.e_c, ↓DL.e_op, ↓DL.e_un, ↓DL.e_if, ↓DL.e_andV, ↓DL.e_orV, ↓DL.e_notV, ↓DL.e_chain, ↓DL.e_B, ↓DL.e_and, ↓DL.e_or, ↓DL.e_not, ↓DL.e_yes, ↓DL.e_isi, ↓DL.e_CB, ↓DL.e_nil, ↓DL.e_cons, ↓DL.e_tup, ↓DL.e_fr, ↓DL.e_lst, ↓DL.e_listOf, ↓DL.e_call, ↓DL.e_seqIt, ↓DL.e_ran1, ↓DL.e_ran2, ↓DL.e_comp, ↓DL.e_lenOwn, ↓DL.e_ownM, ↓DL.e_strM, ↓DL.e_split, ↓DL.e_fmt, ↓DL.e_joined, ↓DL.e_js0, ↓DL.e_js, ↓DL.e_noPart, ↓DL.e_part, ↓DL.e_sl, ↓DL.e_xf, ↓DL.e_isE, DL.g_ifT, DL.g_ifF, DL.g_bl, DL.g_int, DL.g_str, DL.g_step, DL.g_some, DL.g_none, DL.g_slst, DL.g_stup, DL.g_sstr, DL.g_sscr, DL.gd_0, DL.gd_s, DL.sd_0, DL.sd_s, DL.g_par, DL.g_tupG, DL.g_vown, DL.g_vval, DL.g_listOft, DL.g_listOfl, DL.g_ran1, DL.g_ran2, DL.wipe_0, DL.wipe_s, DL.g_own, DL.g_append, DL.g_pop, DL.g_joinl, DL.g_joint, DL.g_fmts, DL.g_fmti, DL.g_slt, DL.g_sls, DL.o_int0, DL.o_int, DL.o_addi, DL.o_adds, DL.o_addt, DL.o_addl, DL.o_eqi, DL.o_nei, DL.o_isN, DL.o_notN, DL.o_bl2, DL.o_ixt, DL.o_ixl, DL.o_ixs, DL.o_inss, DL.o_int_, DL.o_inl, DL.l_lent, DL.l_lenl, DL.l_lens, DL.l_abs, DL.l_inti, DL.l_intb, DL.l_str, DL.l_tupt, DL.l_tupl, DL.l_all, DL.l_sum, DL.isB_non, DL.isB_bl, DL.isB_int, DL.isB_str, DL.isB_tup, DL.isB_lst, DL.isN_non, DL.isN_bl, DL.isN_int, DL.isN_str, DL.isN_tup, DL.isN_lst, DL.isN_ins, DL.g_exc, DL.g_gnx, DL.g_grt, DL.g_gbk, DL.g_gct, DL.d_eq1, DL.d_eq0, DL.d_lt1, DL.d_lt0, DL.d_le1, DL.d_le0, DL.at0, DL.at1, DL.at2, DL.at3, DL.at4, DL.at5, DL.kit_nn_int, DL.kit_nn_bool, DL.kit_nn_str, DL.kit_nn_tuple, DL.kit_nn_list, DL.kit_bool_int, DL.kit_bool_bool, DL.kit_bool_str, DL.kit_bool_tuple, DL.kit_bool_list, DL.kit_int_int, DL.kit_int_bool, DL.kit_int_str, DL.kit_int_tuple, DL.kit_int_list, DL.kit_str_int, DL.kit_str_bool, DL.kit_str_str, DL.kit_str_tuple, DL.kit_str_list, DL.kit_tuple_int, DL.kit_tuple_bool, DL.kit_tuple_str, DL.kit_tuple_tuple, DL.kit_tuple_list, DL.kit_list_int, DL.kit_list_bool, DL.kit_list_str, DL.kit_list_tuple, DL.kit_list_list, DL.own_non, DL.own_bl, DL.own_int, DL.own_str, DL.own_tup, DL.own_lst, DL.own_bag, DL.own_scr, DL.own_ins, DL.own_exc, DL.o_eq, DL.o_ne, DL.cmp_int, DL.cmp_bl, DL.cmp_non, DL.eq_int, true_and, and_true, Bool.not_true, Bool.not_false, DL.xcOf, List.length_cons, List.length_nil, DL.startD, List.map_cons, List.map_nil, List.replicate_succ, List.replicate_zero, List.cons_append, List.nil_append, Nat.reduceSub, Nat.reduceAdd, Int.cast_ofNat_Int, Int.natCast_zero, Int.natCast_one, decide_true, decide_false, not_false_eq_true, Int.reduceEq, Int.reduceLT, Int.reduceLE, Int.reduceNeg]
  (unfold t__law_made_right_9; walk_at "run")
  refine ⟨by unfold bd; decide, fun z => by omega, fun _ => ?_, fun z => by omega⟩
  rw [rOf_one]
  (unfold t__law_made_right_10; walk_at "run")
  refine ⟨rfl, ?_⟩
  show bD (.bl true) _
  walk_at "run"
  refine ⟨le_line (n := 2) (by decide), okN_cmp (n := 1) rfl (by decide), okN_cmp (n := 1) rfl (by decide), ?_⟩
  rw [eq_self_all 1 _ rfl]
  exact q
theorem rd__law_made_right {ds Q X} (h : sp__law_made_right ds Q X) : t__law_made_right X (endD Q) (startD 7 ds) := by
  match ds, h with
  | [.bag, .int size], ⟨h0, h1, q⟩ =>
    (unfold t__law_made_right; walk_at "run")
    refine ⟨h0, h1, fun t ht => ?_⟩
    (unfold t__law_made_right_1; walk_at "run")
    refine ⟨h0, h1, fun l hl => ?_⟩
    (unfold t__law_made_right_2; walk_at "run")
    have tail : ∀ t l : Int, t.natAbs ≤ 2 * 10 ^ 39 → l.natAbs ≤ 2 * 10 ^ 39 → t__law_made_right_4 X (endD Q) [some .bag, some (.int size), some (.int t), some (.int l), none, none, none] := by
      intro t l ht hl
      (unfold t__law_made_right_4; walk_at "run")
      refine ⟨le_line (n := 4) (by decide), ?_⟩
      (unfold t__law_made_right_5; walk_at "run")
      refine if_dec (fun c1 => ?_) (fun c1 => ?_)
      · walk_at "run"
        refine ⟨bd_small hl, c1, ?_⟩
        walk_at "run"
        refine ⟨le_line (n := 4) (by decide), ?_⟩
        (unfold t__law_made_right_6; walk_at "run")
        refine if_dec (fun c2 => by omega) (fun c2 => ?_)
        have e : madeD t l = .tup [.str "made", rOf t l, .int 0, .bl true] := by unfold madeD; rw [if_neg (by omega), if_pos c1]
        walk_at "run"
        rw [← e]
        exact made_tail hl q
      · walk_at "run"
        (unfold t__law_made_right_6; walk_at "run")
        refine if_dec (fun c2 => ?_) (fun c2 => ?_)
        · walk_at "run"
          refine ⟨bd_small (by omega), by omega, ?_⟩
          walk_at "run"
          refine ⟨le_line (n := 4) (by decide), ?_⟩
          have e : madeD t l = .tup [.str "made", rOf (-t) (-l), .int 0, .bl true] := by unfold madeD; rw [if_neg (by omega), if_neg (by omega)]
          rw [← e]
          exact made_tail hl q
        · have e : madeD t l = .tup [.str "refused", .int t, .int l, .bl true] := by unfold madeD; rw [if_pos (by omega)]
          walk_at "run"
          rw [← e]
          exact made_tail hl q
    have tail3 : ∀ t l : Int, t.natAbs ≤ 10 ^ 39 → l.natAbs ≤ 10 ^ 39 → t__law_made_right_3 X (endD Q) [some .bag, some (.int size), some (.int t), some (.int l), none, none, none] := by
      intro t l ht hl
      (unfold t__law_made_right_3; walk_at "run")
      refine ⟨by decide, by decide, fun b => ?_⟩
      cases b
      · exact tail t l (by omega) (by omega)
      · walk_at "run"
        refine ⟨mulOk_r (by decide), mulOk_r (by decide), tail _ _ (by omega) (by omega)⟩
    refine ⟨by decide, by decide, fun b => ?_⟩
    cases b
    · exact tail3 t l ht hl
    · exact tail3 t 0 ht (by decide)
/-! ### two ratios -/
theorem strOk_of (s : String) : strOkD (Str.ofString s) = true := by
  show ((Str.ofString s).cps.all (· < 0x110000)) = true
  rw [Str.ofString_eq_toList]
  rw [List.all_toArray, List.all_eq_true]
  intro n hn
  obtain ⟨c, _, rfl⟩ := List.mem_map.mp hn
  have hv := c.valid
  have : c.toNat < 0x110000 := by
    simp only [UInt32.isValidChar, Nat.isValidChar] at hv
    show c.val.toNat < _
    omega
  exact decide_eq_true this
theorem textR_ok {p q : Int} : strOkD (textR p q) = true := by
  unfold textR
  split
  · exact strOk_of _
  · rw [strOk_app, strOk_app, strOk_of, strOk_of, strOk_of]; rfl
theorem small_pow {x : Int} (h : x.natAbs ≤ 10 ^ 39) : x.natAbs < 2 ^ 1900 := Nat.lt_of_le_of_lt h (Nat.lt_of_lt_of_le (show 10 ^ 39 < 2 ^ 200 by decide) (Nat.pow_le_pow_right (by decide) (by decide)))
theorem IsL.p {d : D} {p q : Int} (h : IsL d p q) : IsP d p q := by
  obtain ⟨rfl, q0, bp, bq, c⟩ := h
  exact ⟨rfl, q0, small_pow bp, small_pow (by omega)⟩
theorem IsL.neg {p q : Int} (h : IsL (.tup [.int p, .int q]) p q) : IsP (.tup [.int (-p), .int q]) (-p) q := ⟨rfl, h.q0, small_pow (by have := h.bp; omega), small_pow (by have := h.q0; have := h.bq; omega)⟩
theorem IsL.l {p q : Int} (h : IsL (.tup [.int p, .int q]) p q) : IsP (.lst [.int p, .int q]) p q := ⟨rfl, h.q0, small_pow h.bp, small_pow (by have := h.q0; have := h.bq; omega)⟩
theorem sign_lt {P b t G : Int} (e : P * b = t * G) (hb : 0 < b) (hG : 0 < G) : (P < 0 ↔ t < 0) ∧ (0 < P ↔ 0 < t) := by
  have p1 : P < 0 → P * b < 0 := fun h => Int.mul_neg_of_neg_of_pos h hb
  have p2 : 0 < P → 0 < P * b := fun h => Int.mul_pos h hb
  have p3 : P = 0 → P * b = 0 := fun h => by rw [h, Int.zero_mul]
  have t1 : t < 0 → t * G < 0 := fun h => Int.mul_neg_of_neg_of_pos h hG
  have t2 : 0 < t → 0 < t * G := fun h => Int.mul_pos h hG
  have t3 : t = 0 → t * G = 0 := fun h => by rw [h, Int.zero_mul]
  constructor <;> constructor <;> intro h <;> omega
theorem rd__law_two_right {ds Q X} (h : sp__law_two_right ds Q X) : t__law_two_right X (endD Q) (startD 5 ds) := by
  match ds, h with
  | [a, b], ⟨p, q, r, s, ha, hb, k⟩ =>
    obtain ⟨rfl, q0, bp, bq, cp⟩ := id ha
    obtain ⟨rfl, s0, br, bs, cr⟩ := id hb
    have m1 : mulOk p r := mul_bd (small_pow bp) (small_pow br) (by decide)
    have m2 : mulOk q s := mul_bd ha.p.bq hb.p.bq (by decide)
    have hqs : 0 < q * s := Int.mul_pos q0 s0
    have bqs : bd (q * s) := nat_mul ha.p.bq hb.p.bq (by decide)
    (unfold t__law_two_right; walk_at "run")
    refine ⟨le_line (n := 2) (by decide), p, q, -r, s, ha.p, hb.neg, ?_⟩
    have e1 : p * s + -r * q = p * s - r * q := by grind
    simp -dsimp only [e1, ↓DL.e_while, ↓DL.e_seq, ↓DL.e_next, ↓DL.e_break, ↓DL.e_cont, ↓DL.e_drop, ↓DL.e_ret, ↓DL.e_retN, ↓DL.e_ifS, ↓DL.e_set, ↓DL.e_own, ↓DL.e_par, ↓DL.e_asg, ↓DL.e_kName, ↓DL.e_kNil, ↓DL.e_kCons, ↓DL.e_kTup, ↓DL.e_for, ↓DL.e_raise, ↓DL.e_try, ↓DL.e_var, ↓DL.e_c, ↓DL.e_op, ↓DL.e_un, ↓DL.e_if, ↓DL.e_andV, ↓DL.e_orV, ↓DL.e_notV, ↓DL.e_chain, ↓DL.e_B, ↓DL.e_and, ↓DL.e_or, ↓DL.e_not, ↓DL.e_yes, ↓DL.e_isi, ↓DL.e_CB, ↓DL.e_nil, ↓DL.e_cons, ↓DL.e_tup, ↓DL.e_fr, ↓DL.e_lst, ↓DL.e_listOf, ↓DL.e_call, ↓DL.e_seqIt, ↓DL.e_ran1, ↓DL.e_ran2, ↓DL.e_comp, ↓DL.e_lenOwn, ↓DL.e_ownM, ↓DL.e_strM, ↓DL.e_split, ↓DL.e_fmt, ↓DL.e_joined, ↓DL.e_js0, ↓DL.e_js, ↓DL.e_noPart, ↓DL.e_part, ↓DL.e_sl, ↓DL.e_xf, ↓DL.e_isE, DL.g_ifT, DL.g_ifF, DL.g_bl, DL.g_int, DL.g_str, DL.g_step, DL.g_some, DL.g_none, DL.g_slst, DL.g_stup, DL.g_sstr, DL.g_sscr, DL.gd_0, DL.gd_s, DL.sd_0, DL.sd_s, DL.g_par, DL.g_tupG, DL.g_vown, DL.g_vval, DL.g_listOft, DL.g_listOfl, DL.g_ran1, DL.g_ran2, DL.wipe_0, DL.wipe_s, DL.g_own, DL.g_append, DL.g_pop, DL.g_joinl, DL.g_joint, DL.g_fmts, DL.g_fmti, DL.g_slt, DL.g_sls, DL.o_int0, DL.o_int, DL.o_addi, DL.o_adds, DL.o_addt, DL.o_addl, DL.o_eqi, DL.o_nei, DL.o_isN, DL.o_notN, DL.o_bl2, DL.o_ixt, DL.o_ixl, DL.o_ixs, DL.o_inss, DL.o_int_, DL.o_inl, DL.l_lent, DL.l_lenl, DL.l_lens, DL.l_abs, DL.l_inti, DL.l_intb, DL.l_str, DL.l_tupt, DL.l_tupl, DL.l_all, DL.l_sum, DL.isB_non, DL.isB_bl, DL.isB_int, DL.isB_str, DL.isB_tup, DL.isB_lst, DL.isN_non, DL.isN_bl, DL.isN_int, DL.isN_str, DL.isN_tup, DL.isN_lst, DL.isN_ins, DL.g_exc, DL.g_gnx, DL.g_grt, DL.g_gbk, DL.g_gct, DL.d_eq1, DL.d_eq0, DL.d_lt1, DL.d_lt0, DL.d_le1, DL.d_le0, DL.at0, DL.at1, DL.at2, DL.at3, DL.at4, DL.at5, DL.kit_nn_int, DL.kit_nn_bool, DL.kit_nn_str, DL.kit_nn_tuple, DL.kit_nn_list, DL.kit_bool_int, DL.kit_bool_bool, DL.kit_bool_str, DL.kit_bool_tuple, DL.kit_bool_list, DL.kit_int_int, DL.kit_int_bool, DL.kit_int_str, DL.kit_int_tuple, DL.kit_int_list, DL.kit_str_int, DL.kit_str_bool, DL.kit_str_str, DL.kit_str_tuple, DL.kit_str_list, DL.kit_tuple_int, DL.kit_tuple_bool, DL.kit_tuple_str, DL.kit_tuple_tuple, DL.kit_tuple_list, DL.kit_list_int, DL.kit_list_bool, DL.kit_list_str, DL.kit_list_tuple, DL.kit_list_list, DL.own_non, DL.own_bl, DL.own_int, DL.own_str, DL.own_tup, DL.own_lst, DL.own_bag, DL.own_scr, DL.own_ins, DL.own_exc, DL.o_eq, DL.o_ne, DL.cmp_int, DL.cmp_bl, DL.cmp_non, DL.eq_int, true_and, and_true, Bool.not_true, Bool.not_false, DL.xcOf, List.length_cons, List.length_nil, DL.startD, List.map_cons, List.map_nil, List.replicate_succ, List.replicate_zero, List.cons_append, List.nil_append, Nat.reduceSub, Nat.reduceAdd, Int.cast_ofNat_Int, Int.natCast_zero, Int.natCast_one, decide_true, decide_false, not_false_eq_true, Int.reduceEq, Int.reduceLT, Int.reduceLE, Int.reduceNeg]
    (unfold t__law_two_right_1; walk_at "run")
    refine ⟨m1, m2, bqs, hqs, ?_⟩
    (unfold t__law_two_right_2; walk_at "run")
    refine ⟨p, q, r, s, ha.p, hb.p, ?_⟩
    walk_at "run"
    refine ⟨p, q, r, s, ha.p, hb.p, ?_⟩
    walk_at "run"
    refine ⟨le_line (n := 2) (by decide), ?_⟩
    (unfold t__law_two_right_3; walk_at "run")
    refine ⟨rfl, ?_⟩
    show bD (.bl true) _
    walk_at "run"
    refine ⟨le_line (n := 2) (by decide), okN_cmp (n := 2) rfl (by decide), okN_cmp (n := 2) rfl (by decide), ?_⟩
    simp -dsimp only [eq_self_all 2 (.tup [rOf (p * s - r * q) (q * s), rOf (p * r) (q * s)]) rfl, ↓DL.e_while, ↓DL.e_seq, ↓DL.e_next, ↓DL.e_break, ↓DL.e_cont, ↓DL.e_drop, ↓DL.e_ret, ↓DL.e_retN, ↓DL.e_ifS, ↓DL.e_set, ↓DL.e_own, ↓DL.e_par, ↓DL.e_asg, ↓DL.e_kName, ↓DL.e_kNil, ↓DL.e_kCons, ↓DL.e_kTup, ↓DL.e_for, ↓DL.e_raise, ↓DL.e_try, ↓DL.e_var, ↓DL.e_c, ↓DL.e_op, ↓DL.e_un, ↓DL.e_if, ↓DL.e_andV, ↓DL.e_orV, ↓DL.e_notV, ↓DL.e_chain, ↓DL.e_B, ↓DL.e_and, ↓DL.e_or, ↓DL.e_not, ↓DL.e_yes, ↓DL.e_isi, ↓DL.e_CB, ↓DL.e_nil, ↓DL.e_cons, ↓DL.e_tup, ↓DL.e_fr, ↓DL.e_lst, ↓DL.e_listOf, ↓DL.e_call, ↓DL.e_seqIt, ↓DL.e_ran1, ↓DL.e_ran2, ↓DL.e_comp, ↓DL.e_lenOwn, ↓DL.e_ownM, ↓DL.e_strM, ↓DL.e_split, ↓DL.e_fmt, ↓DL.e_joined, ↓DL.e_js0, ↓DL.e_js, ↓DL.e_noPart, ↓DL.e_part, ↓DL.e_sl, ↓DL.e_xf, ↓DL.e_isE, DL.g_ifT, DL.g_ifF, DL.g_bl, DL.g_int, DL.g_str, DL.g_step, DL.g_some, DL.g_none, DL.g_slst, DL.g_stup, DL.g_sstr, DL.g_sscr, DL.gd_0, DL.gd_s, DL.sd_0, DL.sd_s, DL.g_par, DL.g_tupG, DL.g_vown, DL.g_vval, DL.g_listOft, DL.g_listOfl, DL.g_ran1, DL.g_ran2, DL.wipe_0, DL.wipe_s, DL.g_own, DL.g_append, DL.g_pop, DL.g_joinl, DL.g_joint, DL.g_fmts, DL.g_fmti, DL.g_slt, DL.g_sls, DL.o_int0, DL.o_int, DL.o_addi, DL.o_adds, DL.o_addt, DL.o_addl, DL.o_eqi, DL.o_nei, DL.o_isN, DL.o_notN, DL.o_bl2, DL.o_ixt, DL.o_ixl, DL.o_ixs, DL.o_inss, DL.o_int_, DL.o_inl, DL.l_lent, DL.l_lenl, DL.l_lens, DL.l_abs, DL.l_inti, DL.l_intb, DL.l_str, DL.l_tupt, DL.l_tupl, DL.l_all, DL.l_sum, DL.isB_non, DL.isB_bl, DL.isB_int, DL.isB_str, DL.isB_tup, DL.isB_lst, DL.isN_non, DL.isN_bl, DL.isN_int, DL.isN_str, DL.isN_tup, DL.isN_lst, DL.isN_ins, DL.g_exc, DL.g_gnx, DL.g_grt, DL.g_gbk, DL.g_gct, DL.d_eq1, DL.d_eq0, DL.d_lt1, DL.d_lt0, DL.d_le1, DL.d_le0, DL.at0, DL.at1, DL.at2, DL.at3, DL.at4, DL.at5, DL.kit_nn_int, DL.kit_nn_bool, DL.kit_nn_str, DL.kit_nn_tuple, DL.kit_nn_list, DL.kit_bool_int, DL.kit_bool_bool, DL.kit_bool_str, DL.kit_bool_tuple, DL.kit_bool_list, DL.kit_int_int, DL.kit_int_bool, DL.kit_int_str, DL.kit_int_tuple, DL.kit_int_list, DL.kit_str_int, DL.kit_str_bool, DL.kit_str_str, DL.kit_str_tuple, DL.kit_str_list, DL.kit_tuple_int, DL.kit_tuple_bool, DL.kit_tuple_str, DL.kit_tuple_tuple, DL.kit_tuple_list, DL.kit_list_int, DL.kit_list_bool, DL.kit_list_str, DL.kit_list_tuple, DL.kit_list_list, DL.own_non, DL.own_bl, DL.own_int, DL.own_str, DL.own_tup, DL.own_lst, DL.own_bag, DL.own_scr, DL.own_ins, DL.own_exc, DL.o_eq, DL.o_ne, DL.cmp_int, DL.cmp_bl, DL.cmp_non, DL.eq_int, true_and, and_true, Bool.not_true, Bool.not_false, DL.xcOf, List.length_cons, List.length_nil, DL.startD, List.map_cons, List.map_nil, List.replicate_succ, List.replicate_zero, List.cons_append, List.nil_append, Nat.reduceSub, Nat.reduceAdd, Int.cast_ofNat_Int, Int.natCast_zero, Int.natCast_one, decide_true, decide_false, not_false_eq_true, Int.reduceEq, Int.reduceLT, Int.reduceLE, Int.reduceNeg]
    -- the signs of the gap
    have hx := rOf_is (t := p * s - r * q) (b := q * s) hqs
    obtain ⟨P, G, eP, G0, cP, eq1, _, _⟩ := hx
    obtain ⟨sg1, sg2⟩ := sign_lt eq1 hqs G0
    have tru : ∀ x y : Bool, x = y → ∀ {K : D → Prop} {X : Str → List D → Prop}, K (.bl true) → callD sp__law_truth [.bl x, .bl y] K X := fun x y e K X h => by
      subst e
      rw [c_truth, beq_self_eq_true]
      exact h
    rw [eP]
    (unfold t__law_two_right_4; walk_at "run")
    refine ⟨p, q, r, s, ha.p, hb.p, ?_⟩
    walk_at "run"
    refine tru _ _ (decide_eq_decide.mpr (by rw [sg1]; omega)) ?_
    walk_at "run"
    (unfold t__law_two_right_5; walk_at "run")
    refine ⟨r, s, p, q, hb.p, ha.p, ?_⟩
    walk_at "run"
    refine tru _ _ (decide_eq_decide.mpr (by rw [sg2]; omega)) ?_
    walk_at "run"
    (unfold t__law_two_right_6; walk_at "run")
    refine ⟨p, q, p, q, ha.p, ha.p, ?_⟩
    walk_at "run"
    refine tru _ _ (decide_eq_false (by omega)) ?_
    walk_at "run"
    (unfold t__law_two_right_7; walk_at "run")
    refine ⟨p, q, ha.p, ?_⟩
    (unfold t__law_two_right_8; walk_at "run")
    refine ⟨p, q, ha.p, ?_⟩
    walk_at "run"
    refine ⟨cmp_str textR_ok, cmp_str textR_ok, ?_⟩
    rw [show eqB (.str (textR p q)) (.str (textR p q)) = true by simp [eqB]]
    walk_at "run"
    (unfold t__law_two_right_9; walk_at "run")
    refine ⟨p, q, r, s, ha.l, hb.l, ?_⟩
    walk_at "run"
    rw [← eP]
    refine ⟨rOf_cmp, rOf_cmp, ?_⟩
    rw [rOf_eqB]
    walk_at "run"
    refine ⟨r, s, hb.l, ?_⟩
    walk_at "run"
    refine ⟨r, s, hb.p, ?_⟩
    walk_at "run"
    refine ⟨cmp_str textR_ok, cmp_str textR_ok, ?_⟩
    rw [show eqB (.str (textR r s)) (.str (textR r s)) = true by simp [eqB]]
    exact k
/-! ### algebra -/
/-- rOf t b as a pair: its parts are small -/
theorem rOf_IsP {t b : Int} (hb : 0 < b) {n : Nat} (ht : t.natAbs < 2 ^ n) (hbb : b.natAbs < 2 ^ n) (hn : n ≤ 1900) : ∃ P G, rOf t b = .tup [.int P, .int G] ∧ IsP (rOf t b) P G ∧ P * b = t * G ∧ 0 < G ∧ P.natAbs < 2 ^ n ∧ G.natAbs < 2 ^ n := by
  obtain ⟨P, G, e, G0, c, eq, l1, l2⟩ := rOf_is (t := t) hb
  have hP : P.natAbs < 2 ^ n := Nat.lt_of_le_of_lt l2 ht
  have hG : G.natAbs < 2 ^ n := Nat.lt_of_le_of_lt (by omega) hbb
  have up : (2 : Nat) ^ n ≤ 2 ^ 1900 := Nat.pow_le_pow_right (by decide) hn
  exact ⟨P, G, e, ⟨by rw [e]; rfl, G0, Nat.lt_of_lt_of_le hP up, Nat.lt_of_lt_of_le hG up⟩, eq, G0, hP, hG⟩
theorem p130 {x : Int} (h : x.natAbs ≤ 10 ^ 39) : x.natAbs < 2 ^ 130 := Nat.lt_of_le_of_lt h (by decide)
theorem up600 {x : Int} {n : Nat} (h : x.natAbs < 2 ^ n) (hn : n ≤ 600) : x.natAbs < 2 ^ 600 := Nat.lt_of_lt_of_le h (Nat.pow_le_pow_right (by decide) hn)
/-- plus of two, its promise used -/
theorem plus2 {a b : D} {p q r s : Int} {K : D → Prop} {X : Str → List D → Prop} (ea : pairOf a = some (p, q)) (eb : pairOf b = some (r, s)) (q0 : 0 < q) (s0 : 0 < s) (bp : p.natAbs < 2 ^ 600) (bq : q.natAbs < 2 ^ 600) (br : r.natAbs < 2 ^ 600) (bs : s.natAbs < 2 ^ 600)
    (k : K (rOf (p * s + r * q) (q * s))) : callD sp_plus [a, b] K X := by
  refine ⟨le_line (n := 2) (by decide), show 2 ≤ 6 by decide, [(p, q), (r, s)], ?_, ?_, fun t b tb e => ?_⟩
  · simp only [pairsOf, ea, eb]
  · intro x hx
    simp only [List.mem_cons, List.not_mem_nil, or_false] at hx
    rcases hx with rfl | rfl
    · exact ⟨q0, bp, bq⟩
    · exact ⟨s0, br, bs⟩
  · have hqs : 0 < q * s := Int.mul_pos q0 s0
    rw [rOf_eq (t' := p * s + r * q) (b' := q * s) tb hqs ?_]
    · exact k
    · simp only [sumR] at e
      grind
theorem id1 {P G p q r s : Int} (h : P * (q * s) = (p * s + r * q) * G) : (P * s - r * G) * q = p * (G * s) := by
  have a : (P * s - r * G) * q = P * (q * s) - r * G * q := by grind
  rw [a, h]; grind
theorem id2 {P G p q r s : Int} (h : P * (q * s) = (p * s - r * q) * G) : (P * s + r * G) * q = p * (G * s) := by
  have a : (P * s + r * G) * q = P * (q * s) + r * G * q := by grind
  rw [a, h]; grind
theorem id3 {A B C E M N p q r s t u : Int} (h1 : A * (q * s) = p * r * B) (h2 : C * (q * u) = p * t * E) (h3 : M * (s * u) = (r * u + t * s) * N) : (p * M * (B * E)) * (s * u) = ((A * E + C * B) * (q * N)) * (s * u) := by
  have a : (p * M * (B * E)) * (s * u) = p * (M * (s * u)) * (B * E) := by grind
  have b : ((A * E + C * B) * (q * N)) * (s * u) = (A * (q * s)) * (u * E * N) + (C * (q * u)) * (s * B * N) := by grind
  rw [a, b, h1, h2, h3]; grind
theorem id4 {P Q M N p q r s t u : Int} (h1 : P * (q * u) = (p * u + t * q) * Q) (h2 : M * (s * u) = (r * u + t * s) * N) : (P * N - M * Q) * (q * u * (s * u)) = (p * s - r * q) * (Q * N * (u * u)) := by
  have a : (P * N - M * Q) * (q * u * (s * u)) = (P * (q * u)) * (N * (s * u)) - (M * (s * u)) * (Q * (q * u)) := by grind
  rw [a, h1, h2]; grind
theorem rd__law_algebra {ds Q X} (h : sp__law_algebra ds Q X) : t__law_algebra X (endD Q) (startD 5 ds) := by
  match ds, h with
  | [a, b, c], ⟨p, q, r, s, t, u, ha, hb, hc, k⟩ =>
    obtain ⟨rfl, q0, bp, bq, cp⟩ := id ha
    obtain ⟨rfl, s0, br, bs, cr⟩ := id hb
    obtain ⟨rfl, u0, bt, bu, ct⟩ := id hc
    have bq' := p130 (x := q) (by omega)
    have bs' := p130 (x := s) (by omega)
    have bu' := p130 (x := u) (by omega)
    have bp' := p130 bp
    have br' := p130 br
    have bt' := p130 bt
    have hqs : 0 < q * s := Int.mul_pos q0 s0
    have hqu : 0 < q * u := Int.mul_pos q0 u0
    have hsu : 0 < s * u := Int.mul_pos s0 u0
    have one : rOf p q = .tup [.int p, .int q] := rOf_self cp
    have nqs := nat_mul (k := 260) bq' bs' (by decide)
    have nqu := nat_mul (k := 260) bq' bu' (by decide)
    have nsu := nat_mul (k := 260) bs' bu' (by decide)
    have nps := nat_mul (k := 260) bp' bs' (by decide)
    have nrq := nat_mul (k := 260) br' bq' (by decide)
    have up1 : ∀ {x : Int}, x.natAbs < 2 ^ 260 → x.natAbs < 2 ^ 261 := fun h => Nat.lt_of_lt_of_le h (Nat.pow_le_pow_right (by decide) (by decide))
    have cmpA : cmpOk (.tup [.int p, .int q]) := okN_cmp (n := 1) rfl (by decide)
    have eqA : eqB (.tup [.int p, .int q]) (.tup [.int p, .int q]) = true := eq_self_all 1 _ rfl
    (unfold t__law_algebra; walk_at "run")
    refine plus2 rfl rfl q0 s0 (up600 bp' (by decide)) (up600 bq' (by decide)) (up600 br' (by decide)) (up600 bs' (by decide)) ?_
    obtain ⟨P, G, eP, iP, xP, G0, nP, nG⟩ := rOf_IsP hqs (nat_add nps nrq) (up1 nqs) (by decide)
    simp -dsimp only [rOf_own, ↓DL.e_while, ↓DL.e_seq, ↓DL.e_next, ↓DL.e_break, ↓DL.e_cont, ↓DL.e_drop, ↓DL.e_ret, ↓DL.e_retN, ↓DL.e_ifS, ↓DL.e_set, ↓DL.e_own, ↓DL.e_par, ↓DL.e_asg, ↓DL.e_kName, ↓DL.e_kNil, ↓DL.e_kCons, ↓DL.e_kTup, ↓DL.e_for, ↓DL.e_raise, ↓DL.e_try, ↓DL.e_var, ↓DL.e_c, ↓DL.e_op, ↓DL.e_un, ↓DL.e_if, ↓DL.e_andV, ↓DL.e_orV, ↓DL.e_notV, ↓DL.e_chain, ↓DL.e_B, ↓DL.e_and, ↓DL.e_or, ↓DL.e_not, ↓DL.e_yes, ↓DL.e_isi, ↓DL.e_CB, ↓DL.e_nil, ↓DL.e_cons, ↓DL.e_tup, ↓DL.e_fr, ↓DL.e_lst, ↓DL.e_listOf, ↓DL.e_call, ↓DL.e_seqIt, ↓DL.e_ran1, ↓DL.e_ran2, ↓DL.e_comp, ↓DL.e_lenOwn, ↓DL.e_ownM, ↓DL.e_strM, ↓DL.e_split, ↓DL.e_fmt, ↓DL.e_joined, ↓DL.e_js0, ↓DL.e_js, ↓DL.e_noPart, ↓DL.e_part, ↓DL.e_sl, ↓DL.e_xf, ↓DL.e_isE, DL.g_ifT, DL.g_ifF, DL.g_bl, DL.g_int, DL.g_str, DL.g_step, DL.g_some, DL.g_none, DL.g_slst, DL.g_stup, DL.g_sstr, DL.g_sscr, DL.gd_0, DL.gd_s, DL.sd_0, DL.sd_s, DL.g_par, DL.g_tupG, DL.g_vown, DL.g_vval, DL.g_listOft, DL.g_listOfl, DL.g_ran1, DL.g_ran2, DL.wipe_0, DL.wipe_s, DL.g_own, DL.g_append, DL.g_pop, DL.g_joinl, DL.g_joint, DL.g_fmts, DL.g_fmti, DL.g_slt, DL.g_sls, DL.o_int0, DL.o_int, DL.o_addi, DL.o_adds, DL.o_addt, DL.o_addl, DL.o_eqi, DL.o_nei, DL.o_isN, DL.o_notN, DL.o_bl2, DL.o_ixt, DL.o_ixl, DL.o_ixs, DL.o_inss, DL.o_int_, DL.o_inl, DL.l_lent, DL.l_lenl, DL.l_lens, DL.l_abs, DL.l_inti, DL.l_intb, DL.l_str, DL.l_tupt, DL.l_tupl, DL.l_all, DL.l_sum, DL.isB_non, DL.isB_bl, DL.isB_int, DL.isB_str, DL.isB_tup, DL.isB_lst, DL.isN_non, DL.isN_bl, DL.isN_int, DL.isN_str, DL.isN_tup, DL.isN_lst, DL.isN_ins, DL.g_exc, DL.g_gnx, DL.g_grt, DL.g_gbk, DL.g_gct, DL.d_eq1, DL.d_eq0, DL.d_lt1, DL.d_lt0, DL.d_le1, DL.d_le0, DL.at0, DL.at1, DL.at2, DL.at3, DL.at4, DL.at5, DL.kit_nn_int, DL.kit_nn_bool, DL.kit_nn_str, DL.kit_nn_tuple, DL.kit_nn_list, DL.kit_bool_int, DL.kit_bool_bool, DL.kit_bool_str, DL.kit_bool_tuple, DL.kit_bool_list, DL.kit_int_int, DL.kit_int_bool, DL.kit_int_str, DL.kit_int_tuple, DL.kit_int_list, DL.kit_str_int, DL.kit_str_bool, DL.kit_str_str, DL.kit_str_tuple, DL.kit_str_list, DL.kit_tuple_int, DL.kit_tuple_bool, DL.kit_tuple_str, DL.kit_tuple_tuple, DL.kit_tuple_list, DL.kit_list_int, DL.kit_list_bool, DL.kit_list_str, DL.kit_list_tuple, DL.kit_list_list, DL.own_non, DL.own_bl, DL.own_int, DL.own_str, DL.own_tup, DL.own_lst, DL.own_bag, DL.own_scr, DL.own_ins, DL.own_exc, DL.o_eq, DL.o_ne, DL.cmp_int, DL.cmp_bl, DL.cmp_non, DL.eq_int, true_and, and_true, Bool.not_true, Bool.not_false, DL.xcOf, List.length_cons, List.length_nil, DL.startD, List.map_cons, List.map_nil, List.replicate_succ, List.replicate_zero, List.cons_append, List.nil_append, Nat.reduceSub, Nat.reduceAdd, Int.cast_ofNat_Int, Int.natCast_zero, Int.natCast_one, decide_true, decide_false, not_false_eq_true, Int.reduceEq, Int.reduceLT, Int.reduceLE, Int.reduceNeg]
    refine ⟨P, G, r, s, iP, hb.p, ?_⟩
    walk_at "run"
    have e1 : rOf (P * s - r * G) (G * s) = rOf p q := rOf_eq (Int.mul_pos G0 s0) q0 (id1 xP)
    rw [e1, one]
    refine ⟨cmpA, cmpA, ?_⟩
    rw [eqA]
    (unfold t__law_algebra_1; walk_at "run")
    refine ⟨p, q, r, s, ha.p, hb.p, ?_⟩
    obtain ⟨P2, G2, eP2, iP2, xP2, G20, nP2, nG2⟩ := rOf_IsP (t := p * s - r * q) hqs (by have := nat_add nps (show (-(r * q)).natAbs < 2 ^ 260 by omega); omega) (up1 nqs) (by decide)
    walk_at "run"
    refine plus2 (by rw [eP2]; rfl) rfl G20 s0 (up600 nP2 (by decide)) (up600 nG2 (by decide)) (up600 br' (by decide)) (up600 bs' (by decide)) ?_
    have e2 : rOf (P2 * s + r * G2) (G2 * s) = rOf p q := rOf_eq (Int.mul_pos G20 s0) q0 (id2 xP2)
    rw [e2, one]
    walk_at "run"
    refine ⟨cmpA, cmpA, ?_⟩
    rw [eqA]
    (unfold t__law_algebra_2; walk_at "run")
    refine ⟨p, q, r, s, ha.p, hb.p, ?_⟩
    obtain ⟨A, B, eA, iA, xA, B0, nA, nB⟩ := rOf_IsP (t := p * r) hqs (n := 261) (up1 (nat_mul bp' br' (by decide))) (up1 nqs) (by decide)
    obtain ⟨C, E, eC, iC, xC, E0, nC, nE⟩ := rOf_IsP (t := p * t) hqu (n := 261) (up1 (nat_mul bp' bt' (by decide))) (up1 nqu) (by decide)
    walk_at "run"
    refine ⟨p, q, t, u, ha.p, hc.p, ?_⟩
    walk_at "run"
    refine plus2 (by rw [eA]; rfl) (by rw [eC]; rfl) B0 E0 (up600 nA (by decide)) (up600 nB (by decide)) (up600 nC (by decide)) (up600 nE (by decide)) ?_
    (unfold t__law_algebra_3; walk_at "run")
    refine plus2 rfl rfl s0 u0 (up600 br' (by decide)) (up600 bs' (by decide)) (up600 bt' (by decide)) (up600 bu' (by decide)) ?_
    obtain ⟨M, N, eM, iM, xM, N0, nM, nN⟩ := rOf_IsP (t := r * u + t * s) hsu (n := 261) (nat_add (nat_mul br' bu' (by decide)) (nat_mul bt' bs' (by decide))) (up1 nsu) (by decide)
    walk_at "run"
    refine ⟨p, q, M, N, ha.p, iM, ?_⟩
    have e3 : rOf (p * M) (q * N) = rOf (A * E + C * B) (B * E) := by
      refine rOf_eq (Int.mul_pos q0 N0) (Int.mul_pos B0 E0) ?_
      exact Int.eq_of_mul_eq_mul_right (by omega) (id3 xA xC xM)
    simp -dsimp only [rOf_own, ↓DL.e_while, ↓DL.e_seq, ↓DL.e_next, ↓DL.e_break, ↓DL.e_cont, ↓DL.e_drop, ↓DL.e_ret, ↓DL.e_retN, ↓DL.e_ifS, ↓DL.e_set, ↓DL.e_own, ↓DL.e_par, ↓DL.e_asg, ↓DL.e_kName, ↓DL.e_kNil, ↓DL.e_kCons, ↓DL.e_kTup, ↓DL.e_for, ↓DL.e_raise, ↓DL.e_try, ↓DL.e_var, ↓DL.e_c, ↓DL.e_op, ↓DL.e_un, ↓DL.e_if, ↓DL.e_andV, ↓DL.e_orV, ↓DL.e_notV, ↓DL.e_chain, ↓DL.e_B, ↓DL.e_and, ↓DL.e_or, ↓DL.e_not, ↓DL.e_yes, ↓DL.e_isi, ↓DL.e_CB, ↓DL.e_nil, ↓DL.e_cons, ↓DL.e_tup, ↓DL.e_fr, ↓DL.e_lst, ↓DL.e_listOf, ↓DL.e_call, ↓DL.e_seqIt, ↓DL.e_ran1, ↓DL.e_ran2, ↓DL.e_comp, ↓DL.e_lenOwn, ↓DL.e_ownM, ↓DL.e_strM, ↓DL.e_split, ↓DL.e_fmt, ↓DL.e_joined, ↓DL.e_js0, ↓DL.e_js, ↓DL.e_noPart, ↓DL.e_part, ↓DL.e_sl, ↓DL.e_xf, ↓DL.e_isE, DL.g_ifT, DL.g_ifF, DL.g_bl, DL.g_int, DL.g_str, DL.g_step, DL.g_some, DL.g_none, DL.g_slst, DL.g_stup, DL.g_sstr, DL.g_sscr, DL.gd_0, DL.gd_s, DL.sd_0, DL.sd_s, DL.g_par, DL.g_tupG, DL.g_vown, DL.g_vval, DL.g_listOft, DL.g_listOfl, DL.g_ran1, DL.g_ran2, DL.wipe_0, DL.wipe_s, DL.g_own, DL.g_append, DL.g_pop, DL.g_joinl, DL.g_joint, DL.g_fmts, DL.g_fmti, DL.g_slt, DL.g_sls, DL.o_int0, DL.o_int, DL.o_addi, DL.o_adds, DL.o_addt, DL.o_addl, DL.o_eqi, DL.o_nei, DL.o_isN, DL.o_notN, DL.o_bl2, DL.o_ixt, DL.o_ixl, DL.o_ixs, DL.o_inss, DL.o_int_, DL.o_inl, DL.l_lent, DL.l_lenl, DL.l_lens, DL.l_abs, DL.l_inti, DL.l_intb, DL.l_str, DL.l_tupt, DL.l_tupl, DL.l_all, DL.l_sum, DL.isB_non, DL.isB_bl, DL.isB_int, DL.isB_str, DL.isB_tup, DL.isB_lst, DL.isN_non, DL.isN_bl, DL.isN_int, DL.isN_str, DL.isN_tup, DL.isN_lst, DL.isN_ins, DL.g_exc, DL.g_gnx, DL.g_grt, DL.g_gbk, DL.g_gct, DL.d_eq1, DL.d_eq0, DL.d_lt1, DL.d_lt0, DL.d_le1, DL.d_le0, DL.at0, DL.at1, DL.at2, DL.at3, DL.at4, DL.at5, DL.kit_nn_int, DL.kit_nn_bool, DL.kit_nn_str, DL.kit_nn_tuple, DL.kit_nn_list, DL.kit_bool_int, DL.kit_bool_bool, DL.kit_bool_str, DL.kit_bool_tuple, DL.kit_bool_list, DL.kit_int_int, DL.kit_int_bool, DL.kit_int_str, DL.kit_int_tuple, DL.kit_int_list, DL.kit_str_int, DL.kit_str_bool, DL.kit_str_str, DL.kit_str_tuple, DL.kit_str_list, DL.kit_tuple_int, DL.kit_tuple_bool, DL.kit_tuple_str, DL.kit_tuple_tuple, DL.kit_tuple_list, DL.kit_list_int, DL.kit_list_bool, DL.kit_list_str, DL.kit_list_tuple, DL.kit_list_list, DL.own_non, DL.own_bl, DL.own_int, DL.own_str, DL.own_tup, DL.own_lst, DL.own_bag, DL.own_scr, DL.own_ins, DL.own_exc, DL.o_eq, DL.o_ne, DL.cmp_int, DL.cmp_bl, DL.cmp_non, DL.eq_int, true_and, and_true, Bool.not_true, Bool.not_false, DL.xcOf, List.length_cons, List.length_nil, DL.startD, List.map_cons, List.map_nil, List.replicate_succ, List.replicate_zero, List.cons_append, List.nil_append, Nat.reduceSub, Nat.reduceAdd, Int.cast_ofNat_Int, Int.natCast_zero, Int.natCast_one, decide_true, decide_false, not_false_eq_true, Int.reduceEq, Int.reduceLT, Int.reduceLE, Int.reduceNeg]
    rw [e3]
    refine ⟨rOf_cmp, rOf_cmp, ?_⟩
    rw [rOf_eqB]
    (unfold t__law_algebra_4; walk_at "run")
    refine plus2 rfl rfl q0 u0 (up600 bp' (by decide)) (up600 bq' (by decide)) (up600 bt' (by decide)) (up600 bu' (by decide)) ?_
    obtain ⟨P3, Q3, eP3, iP3, xP3, Q30, nP3, nQ3⟩ := rOf_IsP (t := p * u + t * q) hqu (n := 261) (nat_add (nat_mul bp' bu' (by decide)) (nat_mul bt' bq' (by decide))) (up1 nqu) (by decide)
    walk_at "run"
    refine plus2 rfl rfl s0 u0 (up600 br' (by decide)) (up600 bs' (by decide)) (up600 bt' (by decide)) (up600 bu' (by decide)) ?_
    walk_at "run"
    refine ⟨P3, Q3, M, N, iP3, iM, ?_⟩
    (unfold t__law_algebra_5; walk_at "run")
    refine ⟨p, q, r, s, ha.p, hb.p, ?_⟩
    have e4 : decide (P3 * N < M * Q3) = decide (p * s < r * q) := by
      have h2 := (sign_lt (id4 xP3 xM) (Int.mul_pos hqu hsu) (Int.mul_pos (Int.mul_pos Q30 N0) (Int.mul_pos u0 u0))).1
      exact decide_eq_decide.mpr (by omega)
    simp -dsimp only [c_truth, e4, beq_self_eq_true, ↓DL.e_while, ↓DL.e_seq, ↓DL.e_next, ↓DL.e_break, ↓DL.e_cont, ↓DL.e_drop, ↓DL.e_ret, ↓DL.e_retN, ↓DL.e_ifS, ↓DL.e_set, ↓DL.e_own, ↓DL.e_par, ↓DL.e_asg, ↓DL.e_kName, ↓DL.e_kNil, ↓DL.e_kCons, ↓DL.e_kTup, ↓DL.e_for, ↓DL.e_raise, ↓DL.e_try, ↓DL.e_var, ↓DL.e_c, ↓DL.e_op, ↓DL.e_un, ↓DL.e_if, ↓DL.e_andV, ↓DL.e_orV, ↓DL.e_notV, ↓DL.e_chain, ↓DL.e_B, ↓DL.e_and, ↓DL.e_or, ↓DL.e_not, ↓DL.e_yes, ↓DL.e_isi, ↓DL.e_CB, ↓DL.e_nil, ↓DL.e_cons, ↓DL.e_tup, ↓DL.e_fr, ↓DL.e_lst, ↓DL.e_listOf, ↓DL.e_call, ↓DL.e_seqIt, ↓DL.e_ran1, ↓DL.e_ran2, ↓DL.e_comp, ↓DL.e_lenOwn, ↓DL.e_ownM, ↓DL.e_strM, ↓DL.e_split, ↓DL.e_fmt, ↓DL.e_joined, ↓DL.e_js0, ↓DL.e_js, ↓DL.e_noPart, ↓DL.e_part, ↓DL.e_sl, ↓DL.e_xf, ↓DL.e_isE, DL.g_ifT, DL.g_ifF, DL.g_bl, DL.g_int, DL.g_str, DL.g_step, DL.g_some, DL.g_none, DL.g_slst, DL.g_stup, DL.g_sstr, DL.g_sscr, DL.gd_0, DL.gd_s, DL.sd_0, DL.sd_s, DL.g_par, DL.g_tupG, DL.g_vown, DL.g_vval, DL.g_listOft, DL.g_listOfl, DL.g_ran1, DL.g_ran2, DL.wipe_0, DL.wipe_s, DL.g_own, DL.g_append, DL.g_pop, DL.g_joinl, DL.g_joint, DL.g_fmts, DL.g_fmti, DL.g_slt, DL.g_sls, DL.o_int0, DL.o_int, DL.o_addi, DL.o_adds, DL.o_addt, DL.o_addl, DL.o_eqi, DL.o_nei, DL.o_isN, DL.o_notN, DL.o_bl2, DL.o_ixt, DL.o_ixl, DL.o_ixs, DL.o_inss, DL.o_int_, DL.o_inl, DL.l_lent, DL.l_lenl, DL.l_lens, DL.l_abs, DL.l_inti, DL.l_intb, DL.l_str, DL.l_tupt, DL.l_tupl, DL.l_all, DL.l_sum, DL.isB_non, DL.isB_bl, DL.isB_int, DL.isB_str, DL.isB_tup, DL.isB_lst, DL.isN_non, DL.isN_bl, DL.isN_int, DL.isN_str, DL.isN_tup, DL.isN_lst, DL.isN_ins, DL.g_exc, DL.g_gnx, DL.g_grt, DL.g_gbk, DL.g_gct, DL.d_eq1, DL.d_eq0, DL.d_lt1, DL.d_lt0, DL.d_le1, DL.d_le0, DL.at0, DL.at1, DL.at2, DL.at3, DL.at4, DL.at5, DL.kit_nn_int, DL.kit_nn_bool, DL.kit_nn_str, DL.kit_nn_tuple, DL.kit_nn_list, DL.kit_bool_int, DL.kit_bool_bool, DL.kit_bool_str, DL.kit_bool_tuple, DL.kit_bool_list, DL.kit_int_int, DL.kit_int_bool, DL.kit_int_str, DL.kit_int_tuple, DL.kit_int_list, DL.kit_str_int, DL.kit_str_bool, DL.kit_str_str, DL.kit_str_tuple, DL.kit_str_list, DL.kit_tuple_int, DL.kit_tuple_bool, DL.kit_tuple_str, DL.kit_tuple_tuple, DL.kit_tuple_list, DL.kit_list_int, DL.kit_list_bool, DL.kit_list_str, DL.kit_list_tuple, DL.kit_list_list, DL.own_non, DL.own_bl, DL.own_int, DL.own_str, DL.own_tup, DL.own_lst, DL.own_bag, DL.own_scr, DL.own_ins, DL.own_exc, DL.o_eq, DL.o_ne, DL.cmp_int, DL.cmp_bl, DL.cmp_non, DL.eq_int, true_and, and_true, Bool.not_true, Bool.not_false, DL.xcOf, List.length_cons, List.length_nil, DL.startD, List.map_cons, List.map_nil, List.replicate_succ, List.replicate_zero, List.cons_append, List.nil_append, Nat.reduceSub, Nat.reduceAdd, Int.cast_ofNat_Int, Int.natCast_zero, Int.natCast_one, decide_true, decide_false, not_false_eq_true, Int.reduceEq, Int.reduceLT, Int.reduceLE, Int.reduceNeg]
    (unfold t__law_algebra_6; walk_at "run")
    refine ⟨le_line (n := 2) (by decide), ?_⟩
    refine plus2 rfl rfl q0 (by decide) (up600 bp' (by decide)) (up600 bq' (by decide)) (by decide) (by decide) ?_
    rw [show rOf (p * 1 + 0 * q) (q * 1) = rOf p q by rw [Int.mul_one, Int.zero_mul, Int.add_zero, Int.mul_one], one]
    walk_at "run"
    refine ⟨cmpA, cmpA, ?_⟩
    rw [eqA]
    walk_at "run"
    refine ⟨le_line (n := 2) (by decide), p, q, 1, 1, ha.p, ⟨rfl, by decide, by decide, by decide⟩, ?_⟩
    simp -dsimp only [Int.mul_one, one, ↓DL.e_while, ↓DL.e_seq, ↓DL.e_next, ↓DL.e_break, ↓DL.e_cont, ↓DL.e_drop, ↓DL.e_ret, ↓DL.e_retN, ↓DL.e_ifS, ↓DL.e_set, ↓DL.e_own, ↓DL.e_par, ↓DL.e_asg, ↓DL.e_kName, ↓DL.e_kNil, ↓DL.e_kCons, ↓DL.e_kTup, ↓DL.e_for, ↓DL.e_raise, ↓DL.e_try, ↓DL.e_var, ↓DL.e_c, ↓DL.e_op, ↓DL.e_un, ↓DL.e_if, ↓DL.e_andV, ↓DL.e_orV, ↓DL.e_notV, ↓DL.e_chain, ↓DL.e_B, ↓DL.e_and, ↓DL.e_or, ↓DL.e_not, ↓DL.e_yes, ↓DL.e_isi, ↓DL.e_CB, ↓DL.e_nil, ↓DL.e_cons, ↓DL.e_tup, ↓DL.e_fr, ↓DL.e_lst, ↓DL.e_listOf, ↓DL.e_call, ↓DL.e_seqIt, ↓DL.e_ran1, ↓DL.e_ran2, ↓DL.e_comp, ↓DL.e_lenOwn, ↓DL.e_ownM, ↓DL.e_strM, ↓DL.e_split, ↓DL.e_fmt, ↓DL.e_joined, ↓DL.e_js0, ↓DL.e_js, ↓DL.e_noPart, ↓DL.e_part, ↓DL.e_sl, ↓DL.e_xf, ↓DL.e_isE, DL.g_ifT, DL.g_ifF, DL.g_bl, DL.g_int, DL.g_str, DL.g_step, DL.g_some, DL.g_none, DL.g_slst, DL.g_stup, DL.g_sstr, DL.g_sscr, DL.gd_0, DL.gd_s, DL.sd_0, DL.sd_s, DL.g_par, DL.g_tupG, DL.g_vown, DL.g_vval, DL.g_listOft, DL.g_listOfl, DL.g_ran1, DL.g_ran2, DL.wipe_0, DL.wipe_s, DL.g_own, DL.g_append, DL.g_pop, DL.g_joinl, DL.g_joint, DL.g_fmts, DL.g_fmti, DL.g_slt, DL.g_sls, DL.o_int0, DL.o_int, DL.o_addi, DL.o_adds, DL.o_addt, DL.o_addl, DL.o_eqi, DL.o_nei, DL.o_isN, DL.o_notN, DL.o_bl2, DL.o_ixt, DL.o_ixl, DL.o_ixs, DL.o_inss, DL.o_int_, DL.o_inl, DL.l_lent, DL.l_lenl, DL.l_lens, DL.l_abs, DL.l_inti, DL.l_intb, DL.l_str, DL.l_tupt, DL.l_tupl, DL.l_all, DL.l_sum, DL.isB_non, DL.isB_bl, DL.isB_int, DL.isB_str, DL.isB_tup, DL.isB_lst, DL.isN_non, DL.isN_bl, DL.isN_int, DL.isN_str, DL.isN_tup, DL.isN_lst, DL.isN_ins, DL.g_exc, DL.g_gnx, DL.g_grt, DL.g_gbk, DL.g_gct, DL.d_eq1, DL.d_eq0, DL.d_lt1, DL.d_lt0, DL.d_le1, DL.d_le0, DL.at0, DL.at1, DL.at2, DL.at3, DL.at4, DL.at5, DL.kit_nn_int, DL.kit_nn_bool, DL.kit_nn_str, DL.kit_nn_tuple, DL.kit_nn_list, DL.kit_bool_int, DL.kit_bool_bool, DL.kit_bool_str, DL.kit_bool_tuple, DL.kit_bool_list, DL.kit_int_int, DL.kit_int_bool, DL.kit_int_str, DL.kit_int_tuple, DL.kit_int_list, DL.kit_str_int, DL.kit_str_bool, DL.kit_str_str, DL.kit_str_tuple, DL.kit_str_list, DL.kit_tuple_int, DL.kit_tuple_bool, DL.kit_tuple_str, DL.kit_tuple_tuple, DL.kit_tuple_list, DL.kit_list_int, DL.kit_list_bool, DL.kit_list_str, DL.kit_list_tuple, DL.kit_list_list, DL.own_non, DL.own_bl, DL.own_int, DL.own_str, DL.own_tup, DL.own_lst, DL.own_bag, DL.own_scr, DL.own_ins, DL.own_exc, DL.o_eq, DL.o_ne, DL.cmp_int, DL.cmp_bl, DL.cmp_non, DL.eq_int, true_and, and_true, Bool.not_true, Bool.not_false, DL.xcOf, List.length_cons, List.length_nil, DL.startD, List.map_cons, List.map_nil, List.replicate_succ, List.replicate_zero, List.cons_append, List.nil_append, Nat.reduceSub, Nat.reduceAdd, Int.cast_ofNat_Int, Int.natCast_zero, Int.natCast_one, decide_true, decide_false, not_false_eq_true, Int.reduceEq, Int.reduceLT, Int.reduceLE, Int.reduceNeg]
    refine ⟨cmpA, cmpA, ?_⟩
    rw [eqA]
    walk_at "run"
    refine ⟨le_line (n := 2) (by decide), 0, 1, r, s, ⟨rfl, by decide, by decide, by decide⟩, hb.p, ?_⟩
    have e5 : rOf (0 * r) (1 * s) = .tup [.int 0, .int 1] := by
      rw [← rOf_one]
      exact rOf_eq (by omega) (by decide) (by omega)
    simp -dsimp only [e5, ↓DL.e_while, ↓DL.e_seq, ↓DL.e_next, ↓DL.e_break, ↓DL.e_cont, ↓DL.e_drop, ↓DL.e_ret, ↓DL.e_retN, ↓DL.e_ifS, ↓DL.e_set, ↓DL.e_own, ↓DL.e_par, ↓DL.e_asg, ↓DL.e_kName, ↓DL.e_kNil, ↓DL.e_kCons, ↓DL.e_kTup, ↓DL.e_for, ↓DL.e_raise, ↓DL.e_try, ↓DL.e_var, ↓DL.e_c, ↓DL.e_op, ↓DL.e_un, ↓DL.e_if, ↓DL.e_andV, ↓DL.e_orV, ↓DL.e_notV, ↓DL.e_chain, ↓DL.e_B, ↓DL.e_and, ↓DL.e_or, ↓DL.e_not, ↓DL.e_yes, ↓DL.e_isi, ↓DL.e_CB, ↓DL.e_nil, ↓DL.e_cons, ↓DL.e_tup, ↓DL.e_fr, ↓DL.e_lst, ↓DL.e_listOf, ↓DL.e_call, ↓DL.e_seqIt, ↓DL.e_ran1, ↓DL.e_ran2, ↓DL.e_comp, ↓DL.e_lenOwn, ↓DL.e_ownM, ↓DL.e_strM, ↓DL.e_split, ↓DL.e_fmt, ↓DL.e_joined, ↓DL.e_js0, ↓DL.e_js, ↓DL.e_noPart, ↓DL.e_part, ↓DL.e_sl, ↓DL.e_xf, ↓DL.e_isE, DL.g_ifT, DL.g_ifF, DL.g_bl, DL.g_int, DL.g_str, DL.g_step, DL.g_some, DL.g_none, DL.g_slst, DL.g_stup, DL.g_sstr, DL.g_sscr, DL.gd_0, DL.gd_s, DL.sd_0, DL.sd_s, DL.g_par, DL.g_tupG, DL.g_vown, DL.g_vval, DL.g_listOft, DL.g_listOfl, DL.g_ran1, DL.g_ran2, DL.wipe_0, DL.wipe_s, DL.g_own, DL.g_append, DL.g_pop, DL.g_joinl, DL.g_joint, DL.g_fmts, DL.g_fmti, DL.g_slt, DL.g_sls, DL.o_int0, DL.o_int, DL.o_addi, DL.o_adds, DL.o_addt, DL.o_addl, DL.o_eqi, DL.o_nei, DL.o_isN, DL.o_notN, DL.o_bl2, DL.o_ixt, DL.o_ixl, DL.o_ixs, DL.o_inss, DL.o_int_, DL.o_inl, DL.l_lent, DL.l_lenl, DL.l_lens, DL.l_abs, DL.l_inti, DL.l_intb, DL.l_str, DL.l_tupt, DL.l_tupl, DL.l_all, DL.l_sum, DL.isB_non, DL.isB_bl, DL.isB_int, DL.isB_str, DL.isB_tup, DL.isB_lst, DL.isN_non, DL.isN_bl, DL.isN_int, DL.isN_str, DL.isN_tup, DL.isN_lst, DL.isN_ins, DL.g_exc, DL.g_gnx, DL.g_grt, DL.g_gbk, DL.g_gct, DL.d_eq1, DL.d_eq0, DL.d_lt1, DL.d_lt0, DL.d_le1, DL.d_le0, DL.at0, DL.at1, DL.at2, DL.at3, DL.at4, DL.at5, DL.kit_nn_int, DL.kit_nn_bool, DL.kit_nn_str, DL.kit_nn_tuple, DL.kit_nn_list, DL.kit_bool_int, DL.kit_bool_bool, DL.kit_bool_str, DL.kit_bool_tuple, DL.kit_bool_list, DL.kit_int_int, DL.kit_int_bool, DL.kit_int_str, DL.kit_int_tuple, DL.kit_int_list, DL.kit_str_int, DL.kit_str_bool, DL.kit_str_str, DL.kit_str_tuple, DL.kit_str_list, DL.kit_tuple_int, DL.kit_tuple_bool, DL.kit_tuple_str, DL.kit_tuple_tuple, DL.kit_tuple_list, DL.kit_list_int, DL.kit_list_bool, DL.kit_list_str, DL.kit_list_tuple, DL.kit_list_list, DL.own_non, DL.own_bl, DL.own_int, DL.own_str, DL.own_tup, DL.own_lst, DL.own_bag, DL.own_scr, DL.own_ins, DL.own_exc, DL.o_eq, DL.o_ne, DL.cmp_int, DL.cmp_bl, DL.cmp_non, DL.eq_int, true_and, and_true, Bool.not_true, Bool.not_false, DL.xcOf, List.length_cons, List.length_nil, DL.startD, List.map_cons, List.map_nil, List.replicate_succ, List.replicate_zero, List.cons_append, List.nil_append, Nat.reduceSub, Nat.reduceAdd, Int.cast_ofNat_Int, Int.natCast_zero, Int.natCast_one, decide_true, decide_false, not_false_eq_true, Int.reduceEq, Int.reduceLT, Int.reduceLE, Int.reduceNeg]
    refine ⟨le_line (n := 2) (by decide), okN_cmp (n := 1) rfl (by decide), okN_cmp (n := 1) rfl (by decide), ?_⟩
    exact k
end K01

set_option Elab.async false
set_option linter.all false
set_option maxRecDepth 100000
set_option maxHeartbeats 4000000
/-! K01w: the readings keep the promises, five. -/
namespace K01
open PySem PySem.Spec L2 DL
theorem id5 {P G T B p q : Int} (h : P * B = T * G) : (P * q + p * G) * (B * q) = (T * q + p * B) * (G * q) := by
  have a : (P * q + p * G) * (B * q) = (P * B) * (q * q) + p * G * (B * q) := by grind
  rw [a, h]; grind
theorem sumR_perm {a b : List (Int × Int)} (h : a.Perm b) : sumR a = sumR b := by
  induction h with
  | nil => rfl
  | cons x _ ih => obtain ⟨p, q⟩ := x; simp only [sumR, ih]
  | swap x y l =>
    obtain ⟨p, q⟩ := x
    obtain ⟨p2, q2⟩ := y
    simp only [sumR]
    refine Prod.ext ?_ ?_
    · show ((sumR l).1 * q + p * (sumR l).2) * q2 + p2 * ((sumR l).2 * q) = ((sumR l).1 * q2 + p2 * (sumR l).2) * q + p * ((sumR l).2 * q2)
      grind
    · show (sumR l).2 * q * q2 = (sumR l).2 * q2 * q
      grind
  | trans _ _ i1 i2 => exact i1.trans i2
def gp (d : D) : Int × Int := (pairOf d).getD (0, 0)
theorem pairs_map : ∀ xs : List D, (∀ x ∈ xs, ∃ pq, pairOf x = some pq) → pairsOf xs = some (xs.map gp)
  | [], _ => rfl
  | x :: xs, h => by
    obtain ⟨pq, e⟩ := h x List.mem_cons_self
    unfold pairsOf
    rw [e, pairs_map xs fun y hy => h y (List.mem_cons_of_mem _ hy)]
    simp [gp, e]
theorem sums_loop {X : Str → List D → Prop} {R : Endd} {c n4 n5 n6 n7 : Option D} : ∀ (xs : List D) (T B : Int) (z : Option D) (m : Nat), (∀ x ∈ xs, ∃ p q, IsL x p q) → 0 < B → T.natAbs < 2 ^ m → B.natAbs < 2 ^ m → m + 131 * xs.length ≤ 1900 →
    (∀ (T' B' : Int) (z : Option D), 0 < B' → T' = T * (sumR (xs.map gp)).2 + (sumR (xs.map gp)).1 * B → B' = B * (sumR (xs.map gp)).2 → R.nx [some .bag, c, some (rOf T' B'), z, n4, n5, n6, n7]) →
    loopD (kName 3) (dSet 2 (dCall sp__law_plus (xcOf X) (dCons (dVar 2) (dCons (dVar 3) (dNil))))) R xs [some .bag, c, some (rOf T B), z, n4, n5, n6, n7]
  | [], T, B, z, m, _, hB, _, _, _, k => k T B z hB (by simp [sumR]) (by simp [sumR])
  | x :: xs, T, B, z, m, hs, hB, bT, bB, hm, k => by
    obtain ⟨p, q, hx⟩ := hs x List.mem_cons_self
    obtain ⟨rfl, q0, bp, bq, cp⟩ := id hx
    have hlen : m + 131 * (xs.length + 1) ≤ 1900 := hm
    obtain ⟨P, G, eP, iP, xP, G0, nP, nG⟩ := rOf_IsP hB bT bB (by omega)
    have bq' := p130 (x := q) (by omega)
    have bp' := p130 bp
    have e : rOf (P * q + p * G) (G * q) = rOf (T * q + p * B) (B * q) := rOf_eq (Int.mul_pos G0 q0) (Int.mul_pos hB q0) (id5 xP)
    have n1 := nat_add (nat_mul bT bq' (Nat.le_refl (m + 130))) (nat_mul (k := m + 130) bp' bB (by omega))
    have n3 : (B * q).natAbs < 2 ^ (m + 130 + 1) := Nat.lt_of_lt_of_le (nat_mul bB bq' (Nat.le_refl (m + 130))) (Nat.pow_le_pow_right (by decide) (by omega))
    simp -dsimp only [loopD, rOf_own, ↓DL.e_while, ↓DL.e_seq, ↓DL.e_next, ↓DL.e_break, ↓DL.e_cont, ↓DL.e_drop, ↓DL.e_ret, ↓DL.e_retN, ↓DL.e_ifS, ↓DL.e_set, ↓DL.e_own, ↓DL.e_par, ↓DL.e_asg, ↓DL.e_kName, ↓DL.e_kNil, ↓DL.e_kCons, ↓DL.e_kTup, ↓DL.e_for, ↓DL.e_raise, ↓DL.e_try, ↓DL.e_var, ↓DL.e_c, ↓DL.e_op, ↓DL.e_un, ↓DL.e_if, ↓DL.e_andV, ↓DL.e_orV, ↓DL.e_notV, ↓DL.e_chain, ↓DL.e_B, ↓DL.e_and, ↓DL.e_or, ↓DL.e_not, ↓DL.e_yes, ↓DL.e_isi, ↓DL.e_CB, ↓DL.e_nil, ↓DL.e_cons, ↓DL.e_tup, ↓DL.e_fr, ↓DL.e_lst, ↓DL.e_listOf, ↓DL.e_call, ↓DL.e_seqIt, ↓DL.e_ran1, ↓DL.e_ran2, ↓DL.e_comp, ↓DL.e_lenOwn, ↓DL.e_ownM, ↓DL.e_strM, ↓DL.e_split, ↓DL.e_fmt, ↓DL.e_joined, ↓DL.e_js0, ↓DL.e_js, ↓DL.e_noPart, ↓DL.e_part, ↓DL.e_sl, ↓DL.e_xf, ↓DL.e_isE, DL.g_ifT, DL.g_ifF, DL.g_bl, DL.g_int, DL.g_str, DL.g_step, DL.g_some, DL.g_none, DL.g_slst, DL.g_stup, DL.g_sstr, DL.g_sscr, DL.gd_0, DL.gd_s, DL.sd_0, DL.sd_s, DL.g_par, DL.g_tupG, DL.g_vown, DL.g_vval, DL.g_listOft, DL.g_listOfl, DL.g_ran1, DL.g_ran2, DL.wipe_0, DL.wipe_s, DL.g_own, DL.g_append, DL.g_pop, DL.g_joinl, DL.g_joint, DL.g_fmts, DL.g_fmti, DL.g_slt, DL.g_sls, DL.o_int0, DL.o_int, DL.o_addi, DL.o_adds, DL.o_addt, DL.o_addl, DL.o_eqi, DL.o_nei, DL.o_isN, DL.o_notN, DL.o_bl2, DL.o_ixt, DL.o_ixl, DL.o_ixs, DL.o_inss, DL.o_int_, DL.o_inl, DL.l_lent, DL.l_lenl, DL.l_lens, DL.l_abs, DL.l_inti, DL.l_intb, DL.l_str, DL.l_tupt, DL.l_tupl, DL.l_all, DL.l_sum, DL.isB_non, DL.isB_bl, DL.isB_int, DL.isB_str, DL.isB_tup, DL.isB_lst, DL.isN_non, DL.isN_bl, DL.isN_int, DL.isN_str, DL.isN_tup, DL.isN_lst, DL.isN_ins, DL.g_exc, DL.g_gnx, DL.g_grt, DL.g_gbk, DL.g_gct, DL.d_eq1, DL.d_eq0, DL.d_lt1, DL.d_lt0, DL.d_le1, DL.d_le0, DL.at0, DL.at1, DL.at2, DL.at3, DL.at4, DL.at5, DL.kit_nn_int, DL.kit_nn_bool, DL.kit_nn_str, DL.kit_nn_tuple, DL.kit_nn_list, DL.kit_bool_int, DL.kit_bool_bool, DL.kit_bool_str, DL.kit_bool_tuple, DL.kit_bool_list, DL.kit_int_int, DL.kit_int_bool, DL.kit_int_str, DL.kit_int_tuple, DL.kit_int_list, DL.kit_str_int, DL.kit_str_bool, DL.kit_str_str, DL.kit_str_tuple, DL.kit_str_list, DL.kit_tuple_int, DL.kit_tuple_bool, DL.kit_tuple_str, DL.kit_tuple_tuple, DL.kit_tuple_list, DL.kit_list_int, DL.kit_list_bool, DL.kit_list_str, DL.kit_list_tuple, DL.kit_list_list, DL.own_non, DL.own_bl, DL.own_int, DL.own_str, DL.own_tup, DL.own_lst, DL.own_bag, DL.own_scr, DL.own_ins, DL.own_exc, DL.o_eq, DL.o_ne, DL.cmp_int, DL.cmp_bl, DL.cmp_non, DL.eq_int, true_and, and_true, Bool.not_true, Bool.not_false, DL.xcOf, List.length_cons, List.length_nil, DL.startD, List.map_cons, List.map_nil, List.replicate_succ, List.replicate_zero, List.cons_append, List.nil_append, Nat.reduceSub, Nat.reduceAdd, Int.cast_ofNat_Int, Int.natCast_zero, Int.natCast_one, decide_true, decide_false, not_false_eq_true, Int.reduceEq, Int.reduceLT, Int.reduceLE, Int.reduceNeg]
    refine ⟨P, G, p, q, iP, hx.p, ?_⟩
    simp -dsimp only [e, ↓DL.e_while, ↓DL.e_seq, ↓DL.e_next, ↓DL.e_break, ↓DL.e_cont, ↓DL.e_drop, ↓DL.e_ret, ↓DL.e_retN, ↓DL.e_ifS, ↓DL.e_set, ↓DL.e_own, ↓DL.e_par, ↓DL.e_asg, ↓DL.e_kName, ↓DL.e_kNil, ↓DL.e_kCons, ↓DL.e_kTup, ↓DL.e_for, ↓DL.e_raise, ↓DL.e_try, ↓DL.e_var, ↓DL.e_c, ↓DL.e_op, ↓DL.e_un, ↓DL.e_if, ↓DL.e_andV, ↓DL.e_orV, ↓DL.e_notV, ↓DL.e_chain, ↓DL.e_B, ↓DL.e_and, ↓DL.e_or, ↓DL.e_not, ↓DL.e_yes, ↓DL.e_isi, ↓DL.e_CB, ↓DL.e_nil, ↓DL.e_cons, ↓DL.e_tup, ↓DL.e_fr, ↓DL.e_lst, ↓DL.e_listOf, ↓DL.e_call, ↓DL.e_seqIt, ↓DL.e_ran1, ↓DL.e_ran2, ↓DL.e_comp, ↓DL.e_lenOwn, ↓DL.e_ownM, ↓DL.e_strM, ↓DL.e_split, ↓DL.e_fmt, ↓DL.e_joined, ↓DL.e_js0, ↓DL.e_js, ↓DL.e_noPart, ↓DL.e_part, ↓DL.e_sl, ↓DL.e_xf, ↓DL.e_isE, DL.g_ifT, DL.g_ifF, DL.g_bl, DL.g_int, DL.g_str, DL.g_step, DL.g_some, DL.g_none, DL.g_slst, DL.g_stup, DL.g_sstr, DL.g_sscr, DL.gd_0, DL.gd_s, DL.sd_0, DL.sd_s, DL.g_par, DL.g_tupG, DL.g_vown, DL.g_vval, DL.g_listOft, DL.g_listOfl, DL.g_ran1, DL.g_ran2, DL.wipe_0, DL.wipe_s, DL.g_own, DL.g_append, DL.g_pop, DL.g_joinl, DL.g_joint, DL.g_fmts, DL.g_fmti, DL.g_slt, DL.g_sls, DL.o_int0, DL.o_int, DL.o_addi, DL.o_adds, DL.o_addt, DL.o_addl, DL.o_eqi, DL.o_nei, DL.o_isN, DL.o_notN, DL.o_bl2, DL.o_ixt, DL.o_ixl, DL.o_ixs, DL.o_inss, DL.o_int_, DL.o_inl, DL.l_lent, DL.l_lenl, DL.l_lens, DL.l_abs, DL.l_inti, DL.l_intb, DL.l_str, DL.l_tupt, DL.l_tupl, DL.l_all, DL.l_sum, DL.isB_non, DL.isB_bl, DL.isB_int, DL.isB_str, DL.isB_tup, DL.isB_lst, DL.isN_non, DL.isN_bl, DL.isN_int, DL.isN_str, DL.isN_tup, DL.isN_lst, DL.isN_ins, DL.g_exc, DL.g_gnx, DL.g_grt, DL.g_gbk, DL.g_gct, DL.d_eq1, DL.d_eq0, DL.d_lt1, DL.d_lt0, DL.d_le1, DL.d_le0, DL.at0, DL.at1, DL.at2, DL.at3, DL.at4, DL.at5, DL.kit_nn_int, DL.kit_nn_bool, DL.kit_nn_str, DL.kit_nn_tuple, DL.kit_nn_list, DL.kit_bool_int, DL.kit_bool_bool, DL.kit_bool_str, DL.kit_bool_tuple, DL.kit_bool_list, DL.kit_int_int, DL.kit_int_bool, DL.kit_int_str, DL.kit_int_tuple, DL.kit_int_list, DL.kit_str_int, DL.kit_str_bool, DL.kit_str_str, DL.kit_str_tuple, DL.kit_str_list, DL.kit_tuple_int, DL.kit_tuple_bool, DL.kit_tuple_str, DL.kit_tuple_tuple, DL.kit_tuple_list, DL.kit_list_int, DL.kit_list_bool, DL.kit_list_str, DL.kit_list_tuple, DL.kit_list_list, DL.own_non, DL.own_bl, DL.own_int, DL.own_str, DL.own_tup, DL.own_lst, DL.own_bag, DL.own_scr, DL.own_ins, DL.own_exc, DL.o_eq, DL.o_ne, DL.cmp_int, DL.cmp_bl, DL.cmp_non, DL.eq_int, true_and, and_true, Bool.not_true, Bool.not_false, DL.xcOf, List.length_cons, List.length_nil, DL.startD, List.map_cons, List.map_nil, List.replicate_succ, List.replicate_zero, List.cons_append, List.nil_append, Nat.reduceSub, Nat.reduceAdd, Int.cast_ofNat_Int, Int.natCast_zero, Int.natCast_one, decide_true, decide_false, not_false_eq_true, Int.reduceEq, Int.reduceLT, Int.reduceLE, Int.reduceNeg]
    refine sums_loop xs _ _ _ (m + 130 + 1) (fun y hy => hs y (List.mem_cons_of_mem _ hy)) (Int.mul_pos hB q0) n1 n3 (by omega) fun T' B' z' h0 eT eB => k T' B' z' h0 ?_ ?_
    · rw [eT, List.map_cons]
      show _ = T * ((sumR (xs.map gp)).2 * q) + ((sumR (xs.map gp)).1 * q + p * (sumR (xs.map gp)).2) * B
      grind
    · rw [eB, List.map_cons]
      show _ = B * ((sumR (xs.map gp)).2 * q)
      grind
/-- the rows as they are handed in -/
structure Hd (xs hs : List D) : Prop where
  len : hs.length = xs.length
  gp : hs.map gp = xs.map gp
  ok : ∀ h ∈ hs, okN 2 h = true ∧ ∃ pq, pairOf h = some pq
theorem sums_tail {X : Str → List D → Prop} {Q : D → Prop} {xs hs : List D} {T B : Int} {z z5 z6 z7 : Option D} (hx : ∀ x ∈ xs, ∃ p q, IsL x p q) (hl : xs.length ≤ 6) (H : Hd xs hs) (hB : 0 < B) (eT : T = (sumR (xs.map gp)).1) (eB : B = (sumR (xs.map gp)).2) (q : Q (.bl true)) :
    t__law_sums_right_4 X (endD Q) [some .bag, some (.lst xs), some (rOf T B), z, some (.lst hs), z5, z6, z7] := by
  have small : ∀ x ∈ xs.map gp, small6 x := by
    intro y hy
    obtain ⟨x, hx', rfl⟩ := List.mem_map.mp hy
    obtain ⟨p, q, rfl, q0, bp, bq, _⟩ := hx x hx'
    exact ⟨q0, up600 (p130 bp) (by decide), up600 (p130 (x := q) (by omega)) (by decide)⟩
  have pr : pairsOf hs = some (xs.map gp) := by rw [pairs_map hs fun h hh => (H.ok h hh).2, H.gp]
  have h2 : ∀ h ∈ hs, okN 8 h = true := fun h hh => okN_mono (H.ok h hh).1 (by decide)
  have k1 : okN 3 (.lst (hs.map tupD)) = true := by
    simp only [okN, Bool.and_eq_true, decide_eq_true_eq, List.length_map]
    refine ⟨by rw [H.len]; omega, List.all_eq_true.mpr fun y hy => ?_⟩
    obtain ⟨h, hh, rfl⟩ := List.mem_map.mp hy
    exact okN_tup 2 h (H.ok h hh).1
  (unfold t__law_sums_right_4; walk_at "run")
  refine ⟨le_line (by rw [H.len]; omega), compD_fun tupD rfl (fun x hx Q q => ?_) ?_⟩
  · simp -dsimp only [okN_own (h2 x hx), ↓DL.e_while, ↓DL.e_seq, ↓DL.e_next, ↓DL.e_break, ↓DL.e_cont, ↓DL.e_drop, ↓DL.e_ret, ↓DL.e_retN, ↓DL.e_ifS, ↓DL.e_set, ↓DL.e_own, ↓DL.e_par, ↓DL.e_asg, ↓DL.e_kName, ↓DL.e_kNil, ↓DL.e_kCons, ↓DL.e_kTup, ↓DL.e_for, ↓DL.e_raise, ↓DL.e_try, ↓DL.e_var, ↓DL.e_c, ↓DL.e_op, ↓DL.e_un, ↓DL.e_if, ↓DL.e_andV, ↓DL.e_orV, ↓DL.e_notV, ↓DL.e_chain, ↓DL.e_B, ↓DL.e_and, ↓DL.e_or, ↓DL.e_not, ↓DL.e_yes, ↓DL.e_isi, ↓DL.e_CB, ↓DL.e_nil, ↓DL.e_cons, ↓DL.e_tup, ↓DL.e_fr, ↓DL.e_lst, ↓DL.e_listOf, ↓DL.e_call, ↓DL.e_seqIt, ↓DL.e_ran1, ↓DL.e_ran2, ↓DL.e_comp, ↓DL.e_lenOwn, ↓DL.e_ownM, ↓DL.e_strM, ↓DL.e_split, ↓DL.e_fmt, ↓DL.e_joined, ↓DL.e_js0, ↓DL.e_js, ↓DL.e_noPart, ↓DL.e_part, ↓DL.e_sl, ↓DL.e_xf, ↓DL.e_isE, DL.g_ifT, DL.g_ifF, DL.g_bl, DL.g_int, DL.g_str, DL.g_step, DL.g_some, DL.g_none, DL.g_slst, DL.g_stup, DL.g_sstr, DL.g_sscr, DL.gd_0, DL.gd_s, DL.sd_0, DL.sd_s, DL.g_par, DL.g_tupG, DL.g_vown, DL.g_vval, DL.g_listOft, DL.g_listOfl, DL.g_ran1, DL.g_ran2, DL.wipe_0, DL.wipe_s, DL.g_own, DL.g_append, DL.g_pop, DL.g_joinl, DL.g_joint, DL.g_fmts, DL.g_fmti, DL.g_slt, DL.g_sls, DL.o_int0, DL.o_int, DL.o_addi, DL.o_adds, DL.o_addt, DL.o_addl, DL.o_eqi, DL.o_nei, DL.o_isN, DL.o_notN, DL.o_bl2, DL.o_ixt, DL.o_ixl, DL.o_ixs, DL.o_inss, DL.o_int_, DL.o_inl, DL.l_lent, DL.l_lenl, DL.l_lens, DL.l_abs, DL.l_inti, DL.l_intb, DL.l_str, DL.l_tupt, DL.l_tupl, DL.l_all, DL.l_sum, DL.isB_non, DL.isB_bl, DL.isB_int, DL.isB_str, DL.isB_tup, DL.isB_lst, DL.isN_non, DL.isN_bl, DL.isN_int, DL.isN_str, DL.isN_tup, DL.isN_lst, DL.isN_ins, DL.g_exc, DL.g_gnx, DL.g_grt, DL.g_gbk, DL.g_gct, DL.d_eq1, DL.d_eq0, DL.d_lt1, DL.d_lt0, DL.d_le1, DL.d_le0, DL.at0, DL.at1, DL.at2, DL.at3, DL.at4, DL.at5, DL.kit_nn_int, DL.kit_nn_bool, DL.kit_nn_str, DL.kit_nn_tuple, DL.kit_nn_list, DL.kit_bool_int, DL.kit_bool_bool, DL.kit_bool_str, DL.kit_bool_tuple, DL.kit_bool_list, DL.kit_int_int, DL.kit_int_bool, DL.kit_int_str, DL.kit_int_tuple, DL.kit_int_list, DL.kit_str_int, DL.kit_str_bool, DL.kit_str_str, DL.kit_str_tuple, DL.kit_str_list, DL.kit_tuple_int, DL.kit_tuple_bool, DL.kit_tuple_str, DL.kit_tuple_tuple, DL.kit_tuple_list, DL.kit_list_int, DL.kit_list_bool, DL.kit_list_str, DL.kit_list_tuple, DL.kit_list_list, DL.own_non, DL.own_bl, DL.own_int, DL.own_str, DL.own_tup, DL.own_lst, DL.own_bag, DL.own_scr, DL.own_ins, DL.own_exc, DL.o_eq, DL.o_ne, DL.cmp_int, DL.cmp_bl, DL.cmp_non, DL.eq_int, true_and, and_true, Bool.not_true, Bool.not_false, DL.xcOf, List.length_cons, List.length_nil, DL.startD, List.map_cons, List.map_nil, List.replicate_succ, List.replicate_zero, List.cons_append, List.nil_append, Nat.reduceSub, Nat.reduceAdd, Int.cast_ofNat_Int, Int.natCast_zero, Int.natCast_one, decide_true, decide_false, not_false_eq_true, Int.reduceEq, Int.reduceLT, Int.reduceLE, Int.reduceNeg]
    exact ⟨h2 x hx, q _ rfl⟩
  (unfold t__law_sums_right_5; walk_at "run")
  refine ⟨by rw [H.len]; exact hl, _, pr, small, fun t b tb e => ?_⟩
  have e1 : rOf t b = rOf T B := rOf_eq tb hB (by rw [eT, eB]; exact e)
  rw [e1]
  (unfold t__law_sums_right_6; walk_at "run")
  refine ⟨by rw [H.len]; omega, fun ys perm => ?_⟩
  walk_at "run"
  have py : pairsOf ys = some (ys.map gp) := pairs_map ys fun h hh => (H.ok h (perm.mem_iff.mp hh)).2
  have sy : sumR (ys.map gp) = sumR (xs.map gp) := by rw [← H.gp]; exact sumR_perm (perm.map gp)
  have hsy : ∀ x ∈ ys.map gp, small6 x := fun x hx => small x (by rw [← H.gp]; exact (perm.map gp).mem_iff.mp hx)
  refine ⟨by rw [perm.length_eq, H.len]; exact hl, _, py, hsy, fun t b tb e => ?_⟩
  have e1 : rOf t b = rOf T B := rOf_eq tb hB (by rw [eT, eB, ← sy]; exact e)
  rw [e1]
  (unfold t__law_sums_right_7; walk_at "run")
  simp -dsimp only [rOf_own, ↓DL.e_while, ↓DL.e_seq, ↓DL.e_next, ↓DL.e_break, ↓DL.e_cont, ↓DL.e_drop, ↓DL.e_ret, ↓DL.e_retN, ↓DL.e_ifS, ↓DL.e_set, ↓DL.e_own, ↓DL.e_par, ↓DL.e_asg, ↓DL.e_kName, ↓DL.e_kNil, ↓DL.e_kCons, ↓DL.e_kTup, ↓DL.e_for, ↓DL.e_raise, ↓DL.e_try, ↓DL.e_var, ↓DL.e_c, ↓DL.e_op, ↓DL.e_un, ↓DL.e_if, ↓DL.e_andV, ↓DL.e_orV, ↓DL.e_notV, ↓DL.e_chain, ↓DL.e_B, ↓DL.e_and, ↓DL.e_or, ↓DL.e_not, ↓DL.e_yes, ↓DL.e_isi, ↓DL.e_CB, ↓DL.e_nil, ↓DL.e_cons, ↓DL.e_tup, ↓DL.e_fr, ↓DL.e_lst, ↓DL.e_listOf, ↓DL.e_call, ↓DL.e_seqIt, ↓DL.e_ran1, ↓DL.e_ran2, ↓DL.e_comp, ↓DL.e_lenOwn, ↓DL.e_ownM, ↓DL.e_strM, ↓DL.e_split, ↓DL.e_fmt, ↓DL.e_joined, ↓DL.e_js0, ↓DL.e_js, ↓DL.e_noPart, ↓DL.e_part, ↓DL.e_sl, ↓DL.e_xf, ↓DL.e_isE, DL.g_ifT, DL.g_ifF, DL.g_bl, DL.g_int, DL.g_str, DL.g_step, DL.g_some, DL.g_none, DL.g_slst, DL.g_stup, DL.g_sstr, DL.g_sscr, DL.gd_0, DL.gd_s, DL.sd_0, DL.sd_s, DL.g_par, DL.g_tupG, DL.g_vown, DL.g_vval, DL.g_listOft, DL.g_listOfl, DL.g_ran1, DL.g_ran2, DL.wipe_0, DL.wipe_s, DL.g_own, DL.g_append, DL.g_pop, DL.g_joinl, DL.g_joint, DL.g_fmts, DL.g_fmti, DL.g_slt, DL.g_sls, DL.o_int0, DL.o_int, DL.o_addi, DL.o_adds, DL.o_addt, DL.o_addl, DL.o_eqi, DL.o_nei, DL.o_isN, DL.o_notN, DL.o_bl2, DL.o_ixt, DL.o_ixl, DL.o_ixs, DL.o_inss, DL.o_int_, DL.o_inl, DL.l_lent, DL.l_lenl, DL.l_lens, DL.l_abs, DL.l_inti, DL.l_intb, DL.l_str, DL.l_tupt, DL.l_tupl, DL.l_all, DL.l_sum, DL.isB_non, DL.isB_bl, DL.isB_int, DL.isB_str, DL.isB_tup, DL.isB_lst, DL.isN_non, DL.isN_bl, DL.isN_int, DL.isN_str, DL.isN_tup, DL.isN_lst, DL.isN_ins, DL.g_exc, DL.g_gnx, DL.g_grt, DL.g_gbk, DL.g_gct, DL.d_eq1, DL.d_eq0, DL.d_lt1, DL.d_lt0, DL.d_le1, DL.d_le0, DL.at0, DL.at1, DL.at2, DL.at3, DL.at4, DL.at5, DL.kit_nn_int, DL.kit_nn_bool, DL.kit_nn_str, DL.kit_nn_tuple, DL.kit_nn_list, DL.kit_bool_int, DL.kit_bool_bool, DL.kit_bool_str, DL.kit_bool_tuple, DL.kit_bool_list, DL.kit_int_int, DL.kit_int_bool, DL.kit_int_str, DL.kit_int_tuple, DL.kit_int_list, DL.kit_str_int, DL.kit_str_bool, DL.kit_str_str, DL.kit_str_tuple, DL.kit_str_list, DL.kit_tuple_int, DL.kit_tuple_bool, DL.kit_tuple_str, DL.kit_tuple_tuple, DL.kit_tuple_list, DL.kit_list_int, DL.kit_list_bool, DL.kit_list_str, DL.kit_list_tuple, DL.kit_list_list, DL.own_non, DL.own_bl, DL.own_int, DL.own_str, DL.own_tup, DL.own_lst, DL.own_bag, DL.own_scr, DL.own_ins, DL.own_exc, DL.o_eq, DL.o_ne, DL.cmp_int, DL.cmp_bl, DL.cmp_non, DL.eq_int, true_and, and_true, Bool.not_true, Bool.not_false, DL.xcOf, List.length_cons, List.length_nil, DL.startD, List.map_cons, List.map_nil, List.replicate_succ, List.replicate_zero, List.cons_append, List.nil_append, Nat.reduceSub, Nat.reduceAdd, Int.cast_ofNat_Int, Int.natCast_zero, Int.natCast_one, decide_true, decide_false, not_false_eq_true, Int.reduceEq, Int.reduceLT, Int.reduceLE, Int.reduceNeg]
  refine ⟨rfl, ?_⟩
  simp -dsimp only [rOf_plain, rOf_own, ↓DL.e_while, ↓DL.e_seq, ↓DL.e_next, ↓DL.e_break, ↓DL.e_cont, ↓DL.e_drop, ↓DL.e_ret, ↓DL.e_retN, ↓DL.e_ifS, ↓DL.e_set, ↓DL.e_own, ↓DL.e_par, ↓DL.e_asg, ↓DL.e_kName, ↓DL.e_kNil, ↓DL.e_kCons, ↓DL.e_kTup, ↓DL.e_for, ↓DL.e_raise, ↓DL.e_try, ↓DL.e_var, ↓DL.e_c, ↓DL.e_op, ↓DL.e_un, ↓DL.e_if, ↓DL.e_andV, ↓DL.e_orV, ↓DL.e_notV, ↓DL.e_chain, ↓DL.e_B, ↓DL.e_and, ↓DL.e_or, ↓DL.e_not, ↓DL.e_yes, ↓DL.e_isi, ↓DL.e_CB, ↓DL.e_nil, ↓DL.e_cons, ↓DL.e_tup, ↓DL.e_fr, ↓DL.e_lst, ↓DL.e_listOf, ↓DL.e_call, ↓DL.e_seqIt, ↓DL.e_ran1, ↓DL.e_ran2, ↓DL.e_comp, ↓DL.e_lenOwn, ↓DL.e_ownM, ↓DL.e_strM, ↓DL.e_split, ↓DL.e_fmt, ↓DL.e_joined, ↓DL.e_js0, ↓DL.e_js, ↓DL.e_noPart, ↓DL.e_part, ↓DL.e_sl, ↓DL.e_xf, ↓DL.e_isE, DL.g_ifT, DL.g_ifF, DL.g_bl, DL.g_int, DL.g_str, DL.g_step, DL.g_some, DL.g_none, DL.g_slst, DL.g_stup, DL.g_sstr, DL.g_sscr, DL.gd_0, DL.gd_s, DL.sd_0, DL.sd_s, DL.g_par, DL.g_tupG, DL.g_vown, DL.g_vval, DL.g_listOft, DL.g_listOfl, DL.g_ran1, DL.g_ran2, DL.wipe_0, DL.wipe_s, DL.g_own, DL.g_append, DL.g_pop, DL.g_joinl, DL.g_joint, DL.g_fmts, DL.g_fmti, DL.g_slt, DL.g_sls, DL.o_int0, DL.o_int, DL.o_addi, DL.o_adds, DL.o_addt, DL.o_addl, DL.o_eqi, DL.o_nei, DL.o_isN, DL.o_notN, DL.o_bl2, DL.o_ixt, DL.o_ixl, DL.o_ixs, DL.o_inss, DL.o_int_, DL.o_inl, DL.l_lent, DL.l_lenl, DL.l_lens, DL.l_abs, DL.l_inti, DL.l_intb, DL.l_str, DL.l_tupt, DL.l_tupl, DL.l_all, DL.l_sum, DL.isB_non, DL.isB_bl, DL.isB_int, DL.isB_str, DL.isB_tup, DL.isB_lst, DL.isN_non, DL.isN_bl, DL.isN_int, DL.isN_str, DL.isN_tup, DL.isN_lst, DL.isN_ins, DL.g_exc, DL.g_gnx, DL.g_grt, DL.g_gbk, DL.g_gct, DL.d_eq1, DL.d_eq0, DL.d_lt1, DL.d_lt0, DL.d_le1, DL.d_le0, DL.at0, DL.at1, DL.at2, DL.at3, DL.at4, DL.at5, DL.kit_nn_int, DL.kit_nn_bool, DL.kit_nn_str, DL.kit_nn_tuple, DL.kit_nn_list, DL.kit_bool_int, DL.kit_bool_bool, DL.kit_bool_str, DL.kit_bool_tuple, DL.kit_bool_list, DL.kit_int_int, DL.kit_int_bool, DL.kit_int_str, DL.kit_int_tuple, DL.kit_int_list, DL.kit_str_int, DL.kit_str_bool, DL.kit_str_str, DL.kit_str_tuple, DL.kit_str_list, DL.kit_tuple_int, DL.kit_tuple_bool, DL.kit_tuple_str, DL.kit_tuple_tuple, DL.kit_tuple_list, DL.kit_list_int, DL.kit_list_bool, DL.kit_list_str, DL.kit_list_tuple, DL.kit_list_list, DL.own_non, DL.own_bl, DL.own_int, DL.own_str, DL.own_tup, DL.own_lst, DL.own_bag, DL.own_scr, DL.own_ins, DL.own_exc, DL.o_eq, DL.o_ne, DL.cmp_int, DL.cmp_bl, DL.cmp_non, DL.eq_int, true_and, and_true, Bool.not_true, Bool.not_false, DL.xcOf, List.length_cons, List.length_nil, DL.startD, List.map_cons, List.map_nil, List.replicate_succ, List.replicate_zero, List.cons_append, List.nil_append, Nat.reduceSub, Nat.reduceAdd, Int.cast_ofNat_Int, Int.natCast_zero, Int.natCast_one, decide_true, decide_false, not_false_eq_true, Int.reduceEq, Int.reduceLT, Int.reduceLE, Int.reduceNeg]
  refine ⟨rfl, ?_⟩
  simp -dsimp only [rOf_plain, rOf_own, ↓DL.e_while, ↓DL.e_seq, ↓DL.e_next, ↓DL.e_break, ↓DL.e_cont, ↓DL.e_drop, ↓DL.e_ret, ↓DL.e_retN, ↓DL.e_ifS, ↓DL.e_set, ↓DL.e_own, ↓DL.e_par, ↓DL.e_asg, ↓DL.e_kName, ↓DL.e_kNil, ↓DL.e_kCons, ↓DL.e_kTup, ↓DL.e_for, ↓DL.e_raise, ↓DL.e_try, ↓DL.e_var, ↓DL.e_c, ↓DL.e_op, ↓DL.e_un, ↓DL.e_if, ↓DL.e_andV, ↓DL.e_orV, ↓DL.e_notV, ↓DL.e_chain, ↓DL.e_B, ↓DL.e_and, ↓DL.e_or, ↓DL.e_not, ↓DL.e_yes, ↓DL.e_isi, ↓DL.e_CB, ↓DL.e_nil, ↓DL.e_cons, ↓DL.e_tup, ↓DL.e_fr, ↓DL.e_lst, ↓DL.e_listOf, ↓DL.e_call, ↓DL.e_seqIt, ↓DL.e_ran1, ↓DL.e_ran2, ↓DL.e_comp, ↓DL.e_lenOwn, ↓DL.e_ownM, ↓DL.e_strM, ↓DL.e_split, ↓DL.e_fmt, ↓DL.e_joined, ↓DL.e_js0, ↓DL.e_js, ↓DL.e_noPart, ↓DL.e_part, ↓DL.e_sl, ↓DL.e_xf, ↓DL.e_isE, DL.g_ifT, DL.g_ifF, DL.g_bl, DL.g_int, DL.g_str, DL.g_step, DL.g_some, DL.g_none, DL.g_slst, DL.g_stup, DL.g_sstr, DL.g_sscr, DL.gd_0, DL.gd_s, DL.sd_0, DL.sd_s, DL.g_par, DL.g_tupG, DL.g_vown, DL.g_vval, DL.g_listOft, DL.g_listOfl, DL.g_ran1, DL.g_ran2, DL.wipe_0, DL.wipe_s, DL.g_own, DL.g_append, DL.g_pop, DL.g_joinl, DL.g_joint, DL.g_fmts, DL.g_fmti, DL.g_slt, DL.g_sls, DL.o_int0, DL.o_int, DL.o_addi, DL.o_adds, DL.o_addt, DL.o_addl, DL.o_eqi, DL.o_nei, DL.o_isN, DL.o_notN, DL.o_bl2, DL.o_ixt, DL.o_ixl, DL.o_ixs, DL.o_inss, DL.o_int_, DL.o_inl, DL.l_lent, DL.l_lenl, DL.l_lens, DL.l_abs, DL.l_inti, DL.l_intb, DL.l_str, DL.l_tupt, DL.l_tupl, DL.l_all, DL.l_sum, DL.isB_non, DL.isB_bl, DL.isB_int, DL.isB_str, DL.isB_tup, DL.isB_lst, DL.isN_non, DL.isN_bl, DL.isN_int, DL.isN_str, DL.isN_tup, DL.isN_lst, DL.isN_ins, DL.g_exc, DL.g_gnx, DL.g_grt, DL.g_gbk, DL.g_gct, DL.d_eq1, DL.d_eq0, DL.d_lt1, DL.d_lt0, DL.d_le1, DL.d_le0, DL.at0, DL.at1, DL.at2, DL.at3, DL.at4, DL.at5, DL.kit_nn_int, DL.kit_nn_bool, DL.kit_nn_str, DL.kit_nn_tuple, DL.kit_nn_list, DL.kit_bool_int, DL.kit_bool_bool, DL.kit_bool_str, DL.kit_bool_tuple, DL.kit_bool_list, DL.kit_int_int, DL.kit_int_bool, DL.kit_int_str, DL.kit_int_tuple, DL.kit_int_list, DL.kit_str_int, DL.kit_str_bool, DL.kit_str_str, DL.kit_str_tuple, DL.kit_str_list, DL.kit_tuple_int, DL.kit_tuple_bool, DL.kit_tuple_str, DL.kit_tuple_tuple, DL.kit_tuple_list, DL.kit_list_int, DL.kit_list_bool, DL.kit_list_str, DL.kit_list_tuple, DL.kit_list_list, DL.own_non, DL.own_bl, DL.own_int, DL.own_str, DL.own_tup, DL.own_lst, DL.own_bag, DL.own_scr, DL.own_ins, DL.own_exc, DL.o_eq, DL.o_ne, DL.cmp_int, DL.cmp_bl, DL.cmp_non, DL.eq_int, true_and, and_true, Bool.not_true, Bool.not_false, DL.xcOf, List.length_cons, List.length_nil, DL.startD, List.map_cons, List.map_nil, List.replicate_succ, List.replicate_zero, List.cons_append, List.nil_append, Nat.reduceSub, Nat.reduceAdd, Int.cast_ofNat_Int, Int.natCast_zero, Int.natCast_one, decide_true, decide_false, not_false_eq_true, Int.reduceEq, Int.reduceLT, Int.reduceLE, Int.reduceNeg]
  unfold t__law_sums_right_8
  simp -dsimp only [rOf_own, ↓DL.e_while, ↓DL.e_seq, ↓DL.e_next, ↓DL.e_break, ↓DL.e_cont, ↓DL.e_drop, ↓DL.e_ret, ↓DL.e_retN, ↓DL.e_ifS, ↓DL.e_set, ↓DL.e_own, ↓DL.e_par, ↓DL.e_asg, ↓DL.e_kName, ↓DL.e_kNil, ↓DL.e_kCons, ↓DL.e_kTup, ↓DL.e_for, ↓DL.e_raise, ↓DL.e_try, ↓DL.e_var, ↓DL.e_c, ↓DL.e_op, ↓DL.e_un, ↓DL.e_if, ↓DL.e_andV, ↓DL.e_orV, ↓DL.e_notV, ↓DL.e_chain, ↓DL.e_B, ↓DL.e_and, ↓DL.e_or, ↓DL.e_not, ↓DL.e_yes, ↓DL.e_isi, ↓DL.e_CB, ↓DL.e_nil, ↓DL.e_cons, ↓DL.e_tup, ↓DL.e_fr, ↓DL.e_lst, ↓DL.e_listOf, ↓DL.e_call, ↓DL.e_seqIt, ↓DL.e_ran1, ↓DL.e_ran2, ↓DL.e_comp, ↓DL.e_lenOwn, ↓DL.e_ownM, ↓DL.e_strM, ↓DL.e_split, ↓DL.e_fmt, ↓DL.e_joined, ↓DL.e_js0, ↓DL.e_js, ↓DL.e_noPart, ↓DL.e_part, ↓DL.e_sl, ↓DL.e_xf, ↓DL.e_isE, DL.g_ifT, DL.g_ifF, DL.g_bl, DL.g_int, DL.g_str, DL.g_step, DL.g_some, DL.g_none, DL.g_slst, DL.g_stup, DL.g_sstr, DL.g_sscr, DL.gd_0, DL.gd_s, DL.sd_0, DL.sd_s, DL.g_par, DL.g_tupG, DL.g_vown, DL.g_vval, DL.g_listOft, DL.g_listOfl, DL.g_ran1, DL.g_ran2, DL.wipe_0, DL.wipe_s, DL.g_own, DL.g_append, DL.g_pop, DL.g_joinl, DL.g_joint, DL.g_fmts, DL.g_fmti, DL.g_slt, DL.g_sls, DL.o_int0, DL.o_int, DL.o_addi, DL.o_adds, DL.o_addt, DL.o_addl, DL.o_eqi, DL.o_nei, DL.o_isN, DL.o_notN, DL.o_bl2, DL.o_ixt, DL.o_ixl, DL.o_ixs, DL.o_inss, DL.o_int_, DL.o_inl, DL.l_lent, DL.l_lenl, DL.l_lens, DL.l_abs, DL.l_inti, DL.l_intb, DL.l_str, DL.l_tupt, DL.l_tupl, DL.l_all, DL.l_sum, DL.isB_non, DL.isB_bl, DL.isB_int, DL.isB_str, DL.isB_tup, DL.isB_lst, DL.isN_non, DL.isN_bl, DL.isN_int, DL.isN_str, DL.isN_tup, DL.isN_lst, DL.isN_ins, DL.g_exc, DL.g_gnx, DL.g_grt, DL.g_gbk, DL.g_gct, DL.d_eq1, DL.d_eq0, DL.d_lt1, DL.d_lt0, DL.d_le1, DL.d_le0, DL.at0, DL.at1, DL.at2, DL.at3, DL.at4, DL.at5, DL.kit_nn_int, DL.kit_nn_bool, DL.kit_nn_str, DL.kit_nn_tuple, DL.kit_nn_list, DL.kit_bool_int, DL.kit_bool_bool, DL.kit_bool_str, DL.kit_bool_tuple, DL.kit_bool_list, DL.kit_int_int, DL.kit_int_bool, DL.kit_int_str, DL.kit_int_tuple, DL.kit_int_list, DL.kit_str_int, DL.kit_str_bool, DL.kit_str_str, DL.kit_str_tuple, DL.kit_str_list, DL.kit_tuple_int, DL.kit_tuple_bool, DL.kit_tuple_str, DL.kit_tuple_tuple, DL.kit_tuple_list, DL.kit_list_int, DL.kit_list_bool, DL.kit_list_str, DL.kit_list_tuple, DL.kit_list_list, DL.own_non, DL.own_bl, DL.own_int, DL.own_str, DL.own_tup, DL.own_lst, DL.own_bag, DL.own_scr, DL.own_ins, DL.own_exc, DL.o_eq, DL.o_ne, DL.cmp_int, DL.cmp_bl, DL.cmp_non, DL.eq_int, true_and, and_true, Bool.not_true, Bool.not_false, DL.xcOf, List.length_cons, List.length_nil, DL.startD, List.map_cons, List.map_nil, List.replicate_succ, List.replicate_zero, List.cons_append, List.nil_append, Nat.reduceSub, Nat.reduceAdd, Int.cast_ofNat_Int, Int.natCast_zero, Int.natCast_one, decide_true, decide_false, not_false_eq_true, Int.reduceEq, Int.reduceLT, Int.reduceLE, Int.reduceNeg]
  refine ⟨rOf_cmp, rOf_cmp, ?_⟩
  simp -dsimp only [rOf_eqB, rOf_own, ↓DL.e_while, ↓DL.e_seq, ↓DL.e_next, ↓DL.e_break, ↓DL.e_cont, ↓DL.e_drop, ↓DL.e_ret, ↓DL.e_retN, ↓DL.e_ifS, ↓DL.e_set, ↓DL.e_own, ↓DL.e_par, ↓DL.e_asg, ↓DL.e_kName, ↓DL.e_kNil, ↓DL.e_kCons, ↓DL.e_kTup, ↓DL.e_for, ↓DL.e_raise, ↓DL.e_try, ↓DL.e_var, ↓DL.e_c, ↓DL.e_op, ↓DL.e_un, ↓DL.e_if, ↓DL.e_andV, ↓DL.e_orV, ↓DL.e_notV, ↓DL.e_chain, ↓DL.e_B, ↓DL.e_and, ↓DL.e_or, ↓DL.e_not, ↓DL.e_yes, ↓DL.e_isi, ↓DL.e_CB, ↓DL.e_nil, ↓DL.e_cons, ↓DL.e_tup, ↓DL.e_fr, ↓DL.e_lst, ↓DL.e_listOf, ↓DL.e_call, ↓DL.e_seqIt, ↓DL.e_ran1, ↓DL.e_ran2, ↓DL.e_comp, ↓DL.e_lenOwn, ↓DL.e_ownM, ↓DL.e_strM, ↓DL.e_split, ↓DL.e_fmt, ↓DL.e_joined, ↓DL.e_js0, ↓DL.e_js, ↓DL.e_noPart, ↓DL.e_part, ↓DL.e_sl, ↓DL.e_xf, ↓DL.e_isE, DL.g_ifT, DL.g_ifF, DL.g_bl, DL.g_int, DL.g_str, DL.g_step, DL.g_some, DL.g_none, DL.g_slst, DL.g_stup, DL.g_sstr, DL.g_sscr, DL.gd_0, DL.gd_s, DL.sd_0, DL.sd_s, DL.g_par, DL.g_tupG, DL.g_vown, DL.g_vval, DL.g_listOft, DL.g_listOfl, DL.g_ran1, DL.g_ran2, DL.wipe_0, DL.wipe_s, DL.g_own, DL.g_append, DL.g_pop, DL.g_joinl, DL.g_joint, DL.g_fmts, DL.g_fmti, DL.g_slt, DL.g_sls, DL.o_int0, DL.o_int, DL.o_addi, DL.o_adds, DL.o_addt, DL.o_addl, DL.o_eqi, DL.o_nei, DL.o_isN, DL.o_notN, DL.o_bl2, DL.o_ixt, DL.o_ixl, DL.o_ixs, DL.o_inss, DL.o_int_, DL.o_inl, DL.l_lent, DL.l_lenl, DL.l_lens, DL.l_abs, DL.l_inti, DL.l_intb, DL.l_str, DL.l_tupt, DL.l_tupl, DL.l_all, DL.l_sum, DL.isB_non, DL.isB_bl, DL.isB_int, DL.isB_str, DL.isB_tup, DL.isB_lst, DL.isN_non, DL.isN_bl, DL.isN_int, DL.isN_str, DL.isN_tup, DL.isN_lst, DL.isN_ins, DL.g_exc, DL.g_gnx, DL.g_grt, DL.g_gbk, DL.g_gct, DL.d_eq1, DL.d_eq0, DL.d_lt1, DL.d_lt0, DL.d_le1, DL.d_le0, DL.at0, DL.at1, DL.at2, DL.at3, DL.at4, DL.at5, DL.kit_nn_int, DL.kit_nn_bool, DL.kit_nn_str, DL.kit_nn_tuple, DL.kit_nn_list, DL.kit_bool_int, DL.kit_bool_bool, DL.kit_bool_str, DL.kit_bool_tuple, DL.kit_bool_list, DL.kit_int_int, DL.kit_int_bool, DL.kit_int_str, DL.kit_int_tuple, DL.kit_int_list, DL.kit_str_int, DL.kit_str_bool, DL.kit_str_str, DL.kit_str_tuple, DL.kit_str_list, DL.kit_tuple_int, DL.kit_tuple_bool, DL.kit_tuple_str, DL.kit_tuple_tuple, DL.kit_tuple_list, DL.kit_list_int, DL.kit_list_bool, DL.kit_list_str, DL.kit_list_tuple, DL.kit_list_list, DL.own_non, DL.own_bl, DL.own_int, DL.own_str, DL.own_tup, DL.own_lst, DL.own_bag, DL.own_scr, DL.own_ins, DL.own_exc, DL.o_eq, DL.o_ne, DL.cmp_int, DL.cmp_bl, DL.cmp_non, DL.eq_int, true_and, and_true, Bool.not_true, Bool.not_false, DL.xcOf, List.length_cons, List.length_nil, DL.startD, List.map_cons, List.map_nil, List.replicate_succ, List.replicate_zero, List.cons_append, List.nil_append, Nat.reduceSub, Nat.reduceAdd, Int.cast_ofNat_Int, Int.natCast_zero, Int.natCast_one, decide_true, decide_false, not_false_eq_true, Int.reduceEq, Int.reduceLT, Int.reduceLE, Int.reduceNeg]
  refine ⟨rOf_cmp, rOf_cmp, ?_⟩
  refine ⟨le_line (by rw [H.len]; omega), compD_fun tupD rfl (fun x hx Q q => ?_) ?_⟩
  · simp -dsimp only [okN_own (h2 x hx), ↓DL.e_while, ↓DL.e_seq, ↓DL.e_next, ↓DL.e_break, ↓DL.e_cont, ↓DL.e_drop, ↓DL.e_ret, ↓DL.e_retN, ↓DL.e_ifS, ↓DL.e_set, ↓DL.e_own, ↓DL.e_par, ↓DL.e_asg, ↓DL.e_kName, ↓DL.e_kNil, ↓DL.e_kCons, ↓DL.e_kTup, ↓DL.e_for, ↓DL.e_raise, ↓DL.e_try, ↓DL.e_var, ↓DL.e_c, ↓DL.e_op, ↓DL.e_un, ↓DL.e_if, ↓DL.e_andV, ↓DL.e_orV, ↓DL.e_notV, ↓DL.e_chain, ↓DL.e_B, ↓DL.e_and, ↓DL.e_or, ↓DL.e_not, ↓DL.e_yes, ↓DL.e_isi, ↓DL.e_CB, ↓DL.e_nil, ↓DL.e_cons, ↓DL.e_tup, ↓DL.e_fr, ↓DL.e_lst, ↓DL.e_listOf, ↓DL.e_call, ↓DL.e_seqIt, ↓DL.e_ran1, ↓DL.e_ran2, ↓DL.e_comp, ↓DL.e_lenOwn, ↓DL.e_ownM, ↓DL.e_strM, ↓DL.e_split, ↓DL.e_fmt, ↓DL.e_joined, ↓DL.e_js0, ↓DL.e_js, ↓DL.e_noPart, ↓DL.e_part, ↓DL.e_sl, ↓DL.e_xf, ↓DL.e_isE, DL.g_ifT, DL.g_ifF, DL.g_bl, DL.g_int, DL.g_str, DL.g_step, DL.g_some, DL.g_none, DL.g_slst, DL.g_stup, DL.g_sstr, DL.g_sscr, DL.gd_0, DL.gd_s, DL.sd_0, DL.sd_s, DL.g_par, DL.g_tupG, DL.g_vown, DL.g_vval, DL.g_listOft, DL.g_listOfl, DL.g_ran1, DL.g_ran2, DL.wipe_0, DL.wipe_s, DL.g_own, DL.g_append, DL.g_pop, DL.g_joinl, DL.g_joint, DL.g_fmts, DL.g_fmti, DL.g_slt, DL.g_sls, DL.o_int0, DL.o_int, DL.o_addi, DL.o_adds, DL.o_addt, DL.o_addl, DL.o_eqi, DL.o_nei, DL.o_isN, DL.o_notN, DL.o_bl2, DL.o_ixt, DL.o_ixl, DL.o_ixs, DL.o_inss, DL.o_int_, DL.o_inl, DL.l_lent, DL.l_lenl, DL.l_lens, DL.l_abs, DL.l_inti, DL.l_intb, DL.l_str, DL.l_tupt, DL.l_tupl, DL.l_all, DL.l_sum, DL.isB_non, DL.isB_bl, DL.isB_int, DL.isB_str, DL.isB_tup, DL.isB_lst, DL.isN_non, DL.isN_bl, DL.isN_int, DL.isN_str, DL.isN_tup, DL.isN_lst, DL.isN_ins, DL.g_exc, DL.g_gnx, DL.g_grt, DL.g_gbk, DL.g_gct, DL.d_eq1, DL.d_eq0, DL.d_lt1, DL.d_lt0, DL.d_le1, DL.d_le0, DL.at0, DL.at1, DL.at2, DL.at3, DL.at4, DL.at5, DL.kit_nn_int, DL.kit_nn_bool, DL.kit_nn_str, DL.kit_nn_tuple, DL.kit_nn_list, DL.kit_bool_int, DL.kit_bool_bool, DL.kit_bool_str, DL.kit_bool_tuple, DL.kit_bool_list, DL.kit_int_int, DL.kit_int_bool, DL.kit_int_str, DL.kit_int_tuple, DL.kit_int_list, DL.kit_str_int, DL.kit_str_bool, DL.kit_str_str, DL.kit_str_tuple, DL.kit_str_list, DL.kit_tuple_int, DL.kit_tuple_bool, DL.kit_tuple_str, DL.kit_tuple_tuple, DL.kit_tuple_list, DL.kit_list_int, DL.kit_list_bool, DL.kit_list_str, DL.kit_list_tuple, DL.kit_list_list, DL.own_non, DL.own_bl, DL.own_int, DL.own_str, DL.own_tup, DL.own_lst, DL.own_bag, DL.own_scr, DL.own_ins, DL.own_exc, DL.o_eq, DL.o_ne, DL.cmp_int, DL.cmp_bl, DL.cmp_non, DL.eq_int, true_and, and_true, Bool.not_true, Bool.not_false, DL.xcOf, List.length_cons, List.length_nil, DL.startD, List.map_cons, List.map_nil, List.replicate_succ, List.replicate_zero, List.cons_append, List.nil_append, Nat.reduceSub, Nat.reduceAdd, Int.cast_ofNat_Int, Int.natCast_zero, Int.natCast_one, decide_true, decide_false, not_false_eq_true, Int.reduceEq, Int.reduceLT, Int.reduceLE, Int.reduceNeg]
    exact ⟨h2 x hx, q _ rfl⟩
  walk_at "run"
  refine ⟨okN_cmp k1 (by decide), okN_cmp k1 (by decide), ?_⟩
  rw [eq_self_all 3 _ k1]
  exact q
def toL : D → D
  | .tup ys => .lst ys
  | d => d
theorem rd__law_sums_right {ds Q X} (h : sp__law_sums_right ds Q X) : t__law_sums_right X (endD Q) (startD 8 ds) := by
  match ds, h with
  | [.bag, .lst xs], ⟨hl, hx, q⟩ =>
    (unfold t__law_sums_right; walk_at "run")
    refine ⟨le_line (n := 2) (by decide), ?_⟩
    (unfold t__law_sums_right_1; walk_at "run")
    rw [← rOf_one]
    refine sums_loop xs 0 1 none 1 hx (by decide) (by decide) (by decide) (by omega) fun T B z hB eT eB => ?_
    have eT' : T = (sumR (xs.map gp)).1 := by rw [eT]; omega
    have eB' : B = (sumR (xs.map gp)).2 := by rw [eB]; omega
    (unfold t__law_sums_right_2; walk_at "run")
    refine ⟨le_line (by omega), compD_fun (fun x => x) rfl (fun x hx' Q q => ?_) ?_⟩
    · obtain ⟨p, q', rfl, _⟩ := hx x hx'
      exact q _ rfl
    rw [List.map_id'' (fun _ => rfl)]
    (unfold t__law_sums_right_3; walk_at "run")
    refine ⟨by decide, by decide, fun b => ?_⟩
    have ok1 : Hd xs xs := ⟨rfl, rfl, fun h hh => by
      obtain ⟨p, q', rfl, _⟩ := hx h hh
      exact ⟨rfl, _, rfl⟩⟩
    cases b
    · exact sums_tail hx hl ok1 hB eT' eB' q
    · walk_at "run"
      refine ⟨le_line (by omega), compD_fun toL rfl (fun x hx' Q q => ?_) ?_⟩
      · obtain ⟨p, q', rfl, _⟩ := hx x hx'
        exact q _ rfl
      · refine sums_tail hx hl ⟨by rw [List.length_map], ?_, fun h hh => ?_⟩ hB eT' eB' q
        · rw [List.map_map]
          refine List.map_congr_left fun x hx' => ?_
          obtain ⟨p, q', rfl, _⟩ := hx x hx'
          rfl
        · obtain ⟨x, hx', rfl⟩ := List.mem_map.mp hh
          obtain ⟨p, q', rfl, _⟩ := hx x hx'
          exact ⟨rfl, _, rfl⟩
/-! ### the law -/
theorem gcd_one {p : Int} : gcdI p 1 = 1 := by
  have h1 := gcdI_pos (a := p) (b := 1) (by decide)
  have h2 := gcdI_le (a := p) (b := 1) (by decide)
  omega
theorem law_tail {X : Str → List D → Prop} {Q : D → Prop} {size way : Int} {rows : List D} {a b : D} {p q r s : Int} {z k : Option D} (h0 : 0 ≤ size) (h1 : size ≤ 3) (hl : rows.length ≤ 6) (hr : ∀ x ∈ rows, ∃ p q, IsL x p q) (ha : IsL a p q) (hb : IsL b r s) (q' : Q (.bl true)) :
    t_law_8 X (endD Q) [z, some .bag, some (.int size), some (.lst rows), some a, some b, some (.int way), k] := by
  obtain ⟨rfl, _⟩ := id ha
  obtain ⟨rfl, _⟩ := id hb
  (unfold t_law_8; walk_at "run")
  refine ⟨hl, hr, ?_⟩
  walk_at "run"
  refine ⟨p, q, r, s, ha, hb, ?_⟩
  (unfold t_law_9; walk_at "run")
  have last : t_law_10 X (endD Q) [z, some .bag, some (.int size), some (.lst rows), some (.tup [.int p, .int q]), some (.tup [.int r, .int s]), some (.int way), k] := by
    (unfold t_law_10; walk_at "run")
    refine ⟨h0, h1, ?_⟩
    (unfold t_law_11; walk_at "run")
    exact q'
  refine if_dec (fun c => ?_) (fun c => ?_)
  · walk_at "run"
    refine ⟨h0, h1, fun d t u hd => ?_⟩
    obtain ⟨rfl, _⟩ := id hd
    walk_at "run"
    exact ⟨p, q, r, s, t, u, ha, hb, hd, last⟩
  · exact last
theorem rd_law {Q : D → Prop} {X : Str → List D → Prop} (q' : Q (.bl true)) : t_law X (endD Q) [none, some .bag, none, none, none, none, none, none] := by
  (unfold t_law; walk_at "run")
  refine ⟨le_line (n := 6) (by decide), by simp, by decide, fun x hx => ?_⟩
  obtain ⟨size, rfl, h0, h1⟩ : ∃ i : Int, x = .int i ∧ 0 ≤ i ∧ i ≤ 3 := by
    simp only [List.mem_cons, List.not_mem_nil, or_false] at hx
    rcases hx with rfl | rfl | rfl | rfl | rfl | rfl <;> exact ⟨_, rfl, by decide, by decide⟩
  (unfold t_law_1; walk_at "run")
  refine ⟨by decide, pick_log (by decide) (by decide), fun n n0 n1 => ?_⟩
  walk_at "run"
  have hn : (intsD 0 n.toNat).length = n.toNat := by unfold intsD; simp
  refine ⟨⟨by omega, by omega⟩, le_line (by omega), compD_one (fun _ d => ∃ p q, IsL d p q) rfl (fun y hy Q k => ?_) fun rows hf => ?_⟩
  · walk_at "run"
    refine ⟨h0, h1, fun d p q hd => ?_⟩
    exact k d _ ⟨p, q, hd⟩ rfl
  have hl : rows.length ≤ 6 ∧ ∀ x ∈ rows, ∃ p q, IsL x p q := by
    have key : ∀ {xs ds : List D}, F2 (fun _ d => ∃ p q, IsL d p q) xs ds → ds.length = xs.length ∧ ∀ x ∈ ds, ∃ p q, IsL x p q := by
      intro xs ds h
      induction h with
      | nil => exact ⟨rfl, fun x hx => by simp at hx⟩
      | cons h t ih => exact ⟨by simp [ih.1], fun x hx => (List.mem_cons.mp hx).elim (fun e => by rw [e]; exact h) (ih.2 x)⟩
    obtain ⟨k1, k2⟩ := key hf
    exact ⟨by omega, k2⟩
  (unfold t_law_2; walk_at "run")
  refine ⟨h0, h1, fun a p q ha => ?_⟩
  obtain ⟨rfl, q0, bp, bq, cp⟩ := id ha
  (unfold t_law_3; walk_at "run")
  refine ⟨h0, h1, fun b r s hb => ?_⟩
  obtain ⟨rfl, s0, br, bs, cr⟩ := id hb
  (unfold t_law_4; walk_at "run")
  refine ⟨by decide, pick_log (by decide) (by decide), fun way w0 w1 => ?_⟩
  (unfold t_law_5; walk_at "run")
  refine if_dec (fun c => ?_) (fun c => ?_)
  · subst c
    walk_at "run"
    (unfold t_law_6; walk_at "run")
    (unfold t_law_7; walk_at "run")
    exact law_tail h0 h1 hl.1 hl.2 ha ha q'
  walk_at "run"
  (unfold t_law_6; walk_at "run")
  refine if_dec (fun c => ?_) (fun c => ?_)
  · subst c
    walk_at "run"
    refine ⟨le_line (n := 2) (by decide), ?_⟩
    (unfold t_law_7; walk_at "run")
    exact law_tail h0 h1 hl.1 hl.2 ha ⟨rfl, q0, by omega, bq, by rw [gcdI_neg]; exact cp⟩ q'
  walk_at "run"
  (unfold t_law_7; walk_at "run")
  refine if_dec (fun c => ?_) (fun c => ?_)
  · subst c
    walk_at "run"
    refine ⟨le_line (n := 2) (by decide), ?_⟩
    exact law_tail h0 h1 hl.1 hl.2 ha ⟨rfl, by decide, bp, by decide, gcd_one⟩ q'
  walk_at "run"
  exact law_tail h0 h1 hl.1 hl.2 ha hb q'
end K01

set_option Elab.async false
set_option linter.all false
set_option maxRecDepth 100000
set_option maxHeartbeats 4000000
/-! K01e: BadRatio's __init__. -/
namespace K01
open PySem PySem.Spec PyProof.Rows L2 DL
abbrev sBR : Stmt := inClass (top 2) 0
theorem scBR : SupScope ["self", "top", "bottom"] ["self", "top", "bottom"] (defScope sBR) := ⟨rfl, rfl, rfl, by decide +kernel, rfl, by decide +kernel, by decide +kernel, by decide +kernel, by decide +kernel, by decide +kernel⟩
theorem ok_BR {P : Program} {w : World} {K : PySem.W.Frag} {mg : Str → Option Value} {base : Heap} {C f : Addr} (T : SupC P K "BadRatio.__init__" (defArgs sBR) (defBody sBR) (defScope sBR) C f ["top", "bottom"]) :
    ∃ fd, FnOk P w K mg base (L2.CX P w) 1 f fd ["self", "top", "bottom"] (spSup C ["top", "bottom"]) ∧ Binds K fd ["self", "top", "bottom"] [] :=
  fn_super (N := ["self", "top", "bottom"]) (k := 0) T scBR (fun _ _ _ _ _ _ _ us hl => match us, hl with | [_, _, _], _ => rfl) rfl rfl rfl rfl (fun L cda cc => ⟨_, rfl⟩) fun cda cc A outer s H E a us Dn hl ha k => by
    match us, hl with
    | [y1, y2], _ =>
      exact ⟨_, pss_cons (ps_ost (pv 0) (pv 1)) (pss_one (ps_ost (pv 0) (pv 2))), ost_two T.ox (T.no _ (by simp)) (T.no _ (by simp)) ha (fun H Q q => ⟨_, rfl, q⟩) (fun H Q q => ⟨_, rfl, q⟩) (fun H Q q => ⟨_, rfl, q⟩) (fun H Q q => ⟨_, rfl, q⟩) fun d H' h1 h2 h3 h4 h5 => k d _ H' h1 h2 h3 h4 h5⟩
end K01

set_option Elab.async false
set_option linter.all false
set_option maxRecDepth 100000
set_option maxHeartbeats 4000000
/-! K01a: all defs of the law together. -/
namespace K01
open PySem PySem.Spec PyProof.Rows L2 DL
def strOf : Value → Option Str
  | .str x _ => some x
  | _ => none
theorem vals_strs : ∀ {xs : List Str} {us : List Value}, us.map strOf = xs.map some → Vals (xs.map V.str) us
  | [], [], _ => .nil
  | [], _ :: _, h => by simp at h
  | _ :: _, [], h => by simp at h
  | x :: xs, u :: us, h => by
    simp only [List.map_cons, List.cons.injEq] at h
    obtain ⟨h1, h2⟩ := h
    cases u <;> simp only [strOf, Option.some.injEq, reduceCtorEq] at h1
    subst h1
    exact .cons ⟨_, rfl⟩ (vals_strs h2)
theorem kit_ref {K : PySem.W.Frag} {t : Value} {C : Addr} {b : Bool} (h1 : PySem.W.hasDictIn K C = true) (h2 : PySem.W.typeIn K (.ref C) = some (.type "type")) (h3 : PySem.W.subIn K t (.ref C) = some b) (h4 : b = true ∨ (t == .ref C) = false) : PySem.W.kitOne K t (.ref C) = some b := by
  obtain ⟨cd, hc, _⟩ := PySem.W.any_some h1
  have e2 : ((PySem.W.clsIn K C).isSome && PySem.W.typeIn K (.ref C) == some (.type "type")) = true := by rw [hc, h2] <;> rfl
  have e3 : PySem.W.kitCls K t (.ref C) = some b := by
    show (if ((PySem.W.clsIn K C).isSome && PySem.W.typeIn K (.ref C) == some (.type "type")) = true then PySem.W.subIn K t (.ref C) else none) = some b
    rw [if_pos e2]; exact h3
  unfold PySem.W.kitOne
  by_cases q : (t == .ref C) = true
  · rw [if_pos q]
    rcases h4 with h | h
    · rw [h]
    · rw [h] at q; cases q
  · rw [if_neg q]; exact e3
theorem kit_ve {K : PySem.W.Frag} {t : Addr} (h : PySem.W.subIn K (.ref t) (.type "ValueError") = some true) : PySem.W.kitOne K (.ref t) (.type "ValueError") = some true := by
  have e : PySem.W.kitMeta "ValueError" = true := by decide +kernel
  have e3 : PySem.W.kitCls K (.ref t) (.type "ValueError") = some true := by
    show (if PySem.W.kitMeta "ValueError" = true then PySem.W.subIn K (.ref t) (.type "ValueError") else none) = some true
    rw [if_pos e]; exact h
  unfold PySem.W.kitOne
  split
  · rfl
  · exact e3
def clsOf (a : Addr) : Str → Option Addr := fun x => if x = "BadRatio" then some a else none
def fldsOf : Str → List Str := fun _ => ["bottom", "top"]
theorem clsOf_BR {a : Addr} : clsOf a "BadRatio" = some a := by simp [clsOf]
theorem only_of {x n : Str} {v b : Bool} (h : only x v n = some b) : x = n ∧ v = b := by
  unfold only at h
  split at h
  · rename_i e; cases h; exact ⟨e.symm, rfl⟩
  · cases h
theorem rd_lawE : t_law (fun _ _ => False) { nx := fun _ => (D.non = D.bl true), rt := fun d => d = .bl true, bk := fun _ => False, ct := fun _ => False } [none, some .bag, none, none, none, none, none, none] := rd_law (Q := fun d => d = .bl true) rfl
theorem len_is_name {ds Q E} (h : sp_is_name ds Q E) : ds.length = 1 := by
  unfold sp_is_name at h
  split at h <;> first | rfl | exact h.elim
theorem len_is_integer {ds Q E} (h : sp_is_integer ds Q E) : ds.length = 3 := by
  unfold sp_is_integer at h
  split at h <;> first | rfl | exact h.elim
theorem len_deep {n : Nat} {ds Q E} (h : sp_deep n ds Q E) : ds.length = 1 := by
  unfold sp_deep spN at h
  split at h <;> first | rfl | exact h.elim
theorem len_common {ds Q E} (h : sp_common ds Q E) : ds.length = 2 := by
  unfold sp_common at h
  split at h <;> first | rfl | exact h.elim
theorem len_ratio {ds Q E} (h : sp_ratio ds Q E) : ds.length = 2 := by
  unfold sp_ratio at h
  split at h <;> first | rfl | exact h.elim
theorem len_rate_of {ds Q E} (h : sp_rate_of ds Q E) : ds.length = 1 := by
  unfold sp_rate_of at h
  split at h <;> first | rfl | exact h.elim
theorem len_is_ratio {ds Q E} (h : sp_is_ratio ds Q E) : ds.length = 1 := by
  unfold sp_is_ratio at h
  split at h <;> first | rfl | exact h.elim
theorem len_minus {ds Q E} (h : sp_minus ds Q E) : ds.length = 2 := by
  unfold sp_minus sp2 at h
  split at h <;> first | rfl | exact h.elim
theorem len_times {ds Q E} (h : sp_times ds Q E) : ds.length = 2 := by
  unfold sp_times sp2 at h
  split at h <;> first | rfl | exact h.elim
theorem len_less {ds Q E} (h : sp_less ds Q E) : ds.length = 2 := by
  unfold sp_less sp2 at h
  split at h <;> first | rfl | exact h.elim
theorem len_write_ratio {ds Q E} (h : sp_write_ratio ds Q E) : ds.length = 1 := by
  unfold sp_write_ratio at h
  split at h <;> first | rfl | exact h.elim
theorem len__law_choice {ds Q E} (h : sp__law_choice ds Q E) : ds.length = 2 := by
  unfold sp__law_choice at h
  split at h <;> first | rfl | exact h.elim
theorem len__law_one_in {ds Q E} (h : sp__law_one_in ds Q E) : ds.length = 2 := by
  unfold sp__law_one_in at h
  split at h <;> first | rfl | exact h.elim
theorem len__law_shuffled {ds Q E} (h : sp__law_shuffled ds Q E) : ds.length = 2 := by
  unfold sp__law_shuffled at h
  split at h <;> first | rfl | exact h.elim
theorem len__law_integer {ds Q E} (h : sp__law_integer ds Q E) : ds.length = 1 := by
  unfold sp__law_integer at h
  split at h <;> first | rfl | exact h.elim
theorem len__law_plain {n : Nat} {ds Q E} (h : sp__law_plain n ds Q E) : ds.length = 1 := by
  unfold sp__law_plain spN at h
  split at h <;> first | rfl | exact h.elim
theorem len__law_lists {n : Nat} {ds Q E} (h : sp__law_lists n ds Q E) : ds.length = 1 := by
  unfold sp__law_lists spN at h
  split at h <;> first | rfl | exact h.elim
theorem len__law_tuples {n : Nat} {ds Q E} (h : sp__law_tuples n ds Q E) : ds.length = 1 := by
  unfold sp__law_tuples spN at h
  split at h <;> first | rfl | exact h.elim
theorem len__law_spelled {ds Q E} (h : sp__law_spelled ds Q E) : ds.length = 2 := by
  unfold sp__law_spelled at h
  split at h <;> first | rfl | exact h.elim
theorem len__law_reserved {ds Q E} (h : sp__law_reserved ds Q E) : ds.length = 0 := by
  unfold sp__law_reserved at h
  split at h <;> first | rfl | exact h.elim
theorem len__law_common {ds Q E} (h : sp__law_common ds Q E) : ds.length = 2 := by
  unfold sp__law_common sp_common at h
  split at h <;> first | rfl | exact h.elim
theorem len__law_ratio {ds Q E} (h : sp__law_ratio ds Q E) : ds.length = 2 := by
  unfold sp__law_ratio sp_ratio0 at h
  split at h <;> first | rfl | exact h.elim
theorem len__law_plus {ds Q E} (h : sp__law_plus ds Q E) : ds.length = 2 := by
  unfold sp__law_plus sp2 at h
  split at h <;> first | rfl | exact h.elim
theorem len__law_number_of {ds Q E} (h : sp__law_number_of ds Q E) : ds.length = 2 := by
  unfold sp__law_number_of at h
  split at h <;> first | rfl | exact h.elim
theorem len__law_drawn {ds Q E} (h : sp__law_drawn ds Q E) : ds.length = 2 := by
  unfold sp__law_drawn at h
  split at h <;> first | rfl | exact h.elim
theorem len__law_made {ds Q E} (h : sp__law_made ds Q E) : ds.length = 2 := by
  unfold sp__law_made at h
  split at h <;> first | rfl | exact h.elim
theorem len__law_made_right {ds Q E} (h : sp__law_made_right ds Q E) : ds.length = 2 := by
  unfold sp__law_made_right at h
  split at h <;> first | rfl | exact h.elim
theorem len__law_sum {ds Q E} (h : sp__law_sum ds Q E) : ds.length = 1 := by
  unfold sp__law_sum at h
  split at h <;> first | rfl | exact h.elim
theorem len__law_sums_right {ds Q E} (h : sp__law_sums_right ds Q E) : ds.length = 2 := by
  unfold sp__law_sums_right at h
  split at h <;> first | rfl | exact h.elim
theorem len__law_text {ds Q E} (h : sp__law_text ds Q E) : ds.length = 1 := by
  unfold sp__law_text sp_write_ratio at h
  split at h <;> first | rfl | exact h.elim
theorem len__law_truth {ds Q E} (h : sp__law_truth ds Q E) : ds.length = 2 := by
  unfold sp__law_truth at h
  split at h <;> first | rfl | exact h.elim
theorem len__law_two_right {ds Q E} (h : sp__law_two_right ds Q E) : ds.length = 2 := by
  unfold sp__law_two_right at h
  split at h <;> first | rfl | exact h.elim
theorem len__law_algebra {ds Q E} (h : sp__law_algebra ds Q E) : ds.length = 3 := by
  unfold sp__law_algebra at h
  split at h <;> first | rfl | exact h.elim
theorem len__law_odd_ratio {ds Q E} (h : sp__law_odd_ratio ds Q E) : ds.length = 1 := by
  unfold sp__law_odd_ratio at h
  split at h <;> first | rfl | exact h.elim
theorem len__law_ratio_fits {ds Q E} (h : sp__law_ratio_fits ds Q E) : ds.length = 1 := by
  unfold sp__law_ratio_fits at h
  split at h <;> first | rfl | exact h.elim
theorem len__law_word_of {ds Q E} (h : sp__law_word_of ds Q E) : ds.length = 1 := by
  unfold sp__law_word_of at h
  split at h <;> first | rfl | exact h.elim
theorem len__law_name_fits {ds Q E} (h : sp__law_name_fits ds Q E) : ds.length = 1 := by
  unfold sp__law_name_fits at h
  split at h <;> first | rfl | exact h.elim
theorem len__law_names_right {ds Q E} (h : sp__law_names_right ds Q E) : ds.length = 1 := by
  unfold sp__law_names_right spBag1 at h
  split at h <;> first | rfl | exact h.elim
theorem len_ratio0 {ds Q E} (h : sp_ratio0 ds Q E) : ds.length = 2 := by
  unfold sp_ratio0 at h
  split at h <;> first | rfl | exact h.elim
theorem all_mk {l : PySem.W.OpenLaw} {w : World} {K : PySem.W.Frag} {h : Heap} {mg : Str → Option Value} {fa : Addr} (X : K.In h) (G : h.Ns mainGlobals mg) (hfa : mg "law" = some (.ref fa))
    {f0 f1 f2 f3 f4 f5 f6 f7 f8 f9 f10 f11 f12 f13 f14 f15 f16 f17 f18 f19 f20 f21 f22 f23 f24 f25 f26 f27 f28 f29 f30 f31 f32 f33 f34 f35 f36 f37 f38 f39 f40 f41 : Addr}
    {aD4 : Addr} {odD4 : Option Addr} {itD4 : Array Value} {nD4 : Nat} {slD4 : Array (Option Value)}
    {od0 an0 od1 an1 od2 an2 od3 an3 od4 an4 od5 an5 od6 an6 od7 an7 od8 an8 od9 an9 od10 an10 od11 an11 od12 an12 od13 an13 od14 an14 od15 an15 od16 an16 od17 an17 od18 an18 od19 an19 od20 an20 od21 an21 od22 an22 od23 an23 od24 an24 od25 an25 od26 an26 od27 an27 od28 an28 od29 an29 od30 an30 od31 an31 od32 an32 od33 an33 od34 an34 od35 an35 od36 an36 od37 an37 od38 an38 od39 an39 od40 an40 od41 an41 : Option Addr} {sl0 sl1 sl2 sl3 sl4 sl5 sl6 sl7 sl8 sl9 sl10 sl11 sl12 sl13 sl14 sl15 sl16 sl17 sl18 sl19 sl20 sl21 sl22 sl23 sl24 sl25 sl26 sl27 sl28 sl29 sl30 sl31 sl32 sl33 sl34 sl35 sl36 sl37 sl38 sl39 sl40 sl41 : Array (Option Value)} {oc0 kV0 dc0 pm0 cd0 ct0 oc1 kV1 dc1 pm1 cd1 ct1 oc2 kV2 dc2 pm2 cd2 ct2 oc3 kV3 dc3 pm3 cd3 ct3 oc4 kV4 dc4 pm4 cd4 ct4 oc5 kV5 dc5 pm5 cd5 ct5 oc6 kV6 dc6 pm6 cd6 ct6 oc7 kV7 dc7 pm7 cd7 ct7 oc8 kV8 dc8 pm8 cd8 ct8 oc9 kV9 dc9 pm9 cd9 ct9 oc10 kV10 dc10 pm10 cd10 ct10 oc11 kV11 dc11 pm11 cd11 ct11 oc12 kV12 dc12 pm12 cd12 ct12 oc13 kV13 dc13 pm13 cd13 ct13 oc14 kV14 dc14 pm14 cd14 ct14 oc15 kV15 dc15 pm15 cd15 ct15 oc16 kV16 dc16 pm16 cd16 ct16 oc17 kV17 dc17 pm17 cd17 ct17 oc18 kV18 dc18 pm18 cd18 ct18 oc19 kV19 dc19 pm19 cd19 ct19 oc20 kV20 dc20 pm20 cd20 ct20 oc21 kV21 dc21 pm21 cd21 ct21 oc22 kV22 dc22 pm22 cd22 ct22 oc23 kV23 dc23 pm23 cd23 ct23 oc24 kV24 dc24 pm24 cd24 ct24 oc25 kV25 dc25 pm25 cd25 ct25 oc26 kV26 dc26 pm26 cd26 ct26 oc27 kV27 dc27 pm27 cd27 ct27 oc28 kV28 dc28 pm28 cd28 ct28 oc29 kV29 dc29 pm29 cd29 ct29 oc30 kV30 dc30 pm30 cd30 ct30 oc31 kV31 dc31 pm31 cd31 ct31 oc32 kV32 dc32 pm32 cd32 ct32 oc33 kV33 dc33 pm33 cd33 ct33 oc34 kV34 dc34 pm34 cd34 ct34 oc35 kV35 dc35 pm35 cd35 ct35 oc36 kV36 dc36 pm36 cd36 ct36 oc37 kV37 dc37 pm37 cd37 ct37 oc38 kV38 dc38 pm38 cd38 ct38 oc39 kV39 dc39 pm39 cd39 ct39 oc40 kV40 dc40 pm40 cd40 ct40 oc41 kV41 dc41 pm41 cd41 ct41 : Value}
    {aBR aSE aBF aWo fB cdaB ccB NB : Addr} {odW odB anB cddB ccd2 ddB : Option Addr} {itW cvsB : Array Value} {nW : Nat} {slW slB ccsB ccs2 : Array (Option Value)} {tL tfB : Tok} {nmB qnB flB : Str} {bsB subB : List Value} {cdC cdS : ClassData} {cSE : Value} {dSE : Option Addr} {slSE : Array (Option Value)} {snB : List Str} {abB : Bool} {colB : Option Bool} {m0 m1 m2 m3 m5 : Option Value} {ocB kVB dcB pmB ctB cclB ccl2 : Value}
    (a0 : PySem.W.nsIn K mainGlobals "is_name" = some (some (.ref f0)))
    (l0 : K.lookup f0 = some ⟨oc0, od0, .func (PySem.W.fnOf "is_name" "is_name" (defArgs s_is_name) (defBody s_is_name) (defScope s_is_name) .none kV0 dc0 pm0 an0 cd0 ct0), sl0⟩)
    (c0 : PySem.W.codeIn K cd0 "is_name" = true)
    (k0 : PySem.W.keepIn K (.ref f0) = true)
    (a1 : PySem.W.nsIn K mainGlobals "is_integer" = some (some (.ref f1)))
    (l1 : K.lookup f1 = some ⟨oc1, od1, .func (PySem.W.fnOf "is_integer" "is_integer" (defArgs s_is_integer) (defBody s_is_integer) (defScope s_is_integer) .none kV1 dc1 pm1 an1 cd1 ct1), sl1⟩)
    (c1 : PySem.W.codeIn K cd1 "is_integer" = true)
    (k1 : PySem.W.keepIn K (.ref f1) = true)
    (a2 : PySem.W.nsIn K mainGlobals "deep" = some (some (.ref f2)))
    (l2 : K.lookup f2 = some ⟨oc2, od2, .func (PySem.W.fnOf "deep" "deep" (defArgs s_deep) (defBody s_deep) (defScope s_deep) .none kV2 dc2 pm2 an2 cd2 ct2), sl2⟩)
    (c2 : PySem.W.codeIn K cd2 "deep" = true)
    (k2 : PySem.W.keepIn K (.ref f2) = true)
    (a3 : PySem.W.nsIn K mainGlobals "common" = some (some (.ref f3)))
    (l3 : K.lookup f3 = some ⟨oc3, od3, .func (PySem.W.fnOf "common" "common" (defArgs s_common) (defBody s_common) (defScope s_common) .none kV3 dc3 pm3 an3 cd3 ct3), sl3⟩)
    (c3 : PySem.W.codeIn K cd3 "common" = true)
    (k3 : PySem.W.keepIn K (.ref f3) = true)
    (a4 : PySem.W.nsIn K mainGlobals "ratio" = some (some (.ref f4)))
    (l4 : K.lookup f4 = some ⟨oc4, od4, .func (PySem.W.fnOf "ratio" "ratio" (defArgs s_ratio) (defBody s_ratio) (defScope s_ratio) (.ref aD4) kV4 dc4 pm4 an4 cd4 ct4), sl4⟩)
    (c4 : PySem.W.codeIn K cd4 "ratio" = true)
    (k4 : PySem.W.keepIn K (.ref f4) = true)
    (ld4 : K.lookup aD4 = some ⟨.type "tuple", odD4, .seq itD4 nD4, slD4⟩)
    (vd4 : Vals [V.int 1] itD4.toList)
    (a5 : PySem.W.nsIn K mainGlobals "rate_of" = some (some (.ref f5)))
    (l5 : K.lookup f5 = some ⟨oc5, od5, .func (PySem.W.fnOf "rate_of" "rate_of" (defArgs s_rate_of) (defBody s_rate_of) (defScope s_rate_of) .none kV5 dc5 pm5 an5 cd5 ct5), sl5⟩)
    (c5 : PySem.W.codeIn K cd5 "rate_of" = true)
    (k5 : PySem.W.keepIn K (.ref f5) = true)
    (a6 : PySem.W.nsIn K mainGlobals "is_ratio" = some (some (.ref f6)))
    (l6 : K.lookup f6 = some ⟨oc6, od6, .func (PySem.W.fnOf "is_ratio" "is_ratio" (defArgs s_is_ratio) (defBody s_is_ratio) (defScope s_is_ratio) .none kV6 dc6 pm6 an6 cd6 ct6), sl6⟩)
    (c6 : PySem.W.codeIn K cd6 "is_ratio" = true)
    (k6 : PySem.W.keepIn K (.ref f6) = true)
    (a7 : PySem.W.nsIn K mainGlobals "plus" = some (some (.ref f7)))
    (l7 : K.lookup f7 = some ⟨oc7, od7, .func (PySem.W.fnOf "plus" "plus" (defArgs s_plus) (defBody s_plus) (defScope s_plus) .none kV7 dc7 pm7 an7 cd7 ct7), sl7⟩)
    (c7 : PySem.W.codeIn K cd7 "plus" = true)
    (k7 : PySem.W.keepIn K (.ref f7) = true)
    (a8 : PySem.W.nsIn K mainGlobals "minus" = some (some (.ref f8)))
    (l8 : K.lookup f8 = some ⟨oc8, od8, .func (PySem.W.fnOf "minus" "minus" (defArgs s_minus) (defBody s_minus) (defScope s_minus) .none kV8 dc8 pm8 an8 cd8 ct8), sl8⟩)
    (c8 : PySem.W.codeIn K cd8 "minus" = true)
    (k8 : PySem.W.keepIn K (.ref f8) = true)
    (a9 : PySem.W.nsIn K mainGlobals "times" = some (some (.ref f9)))
    (l9 : K.lookup f9 = some ⟨oc9, od9, .func (PySem.W.fnOf "times" "times" (defArgs s_times) (defBody s_times) (defScope s_times) .none kV9 dc9 pm9 an9 cd9 ct9), sl9⟩)
    (c9 : PySem.W.codeIn K cd9 "times" = true)
    (k9 : PySem.W.keepIn K (.ref f9) = true)
    (a10 : PySem.W.nsIn K mainGlobals "less" = some (some (.ref f10)))
    (l10 : K.lookup f10 = some ⟨oc10, od10, .func (PySem.W.fnOf "less" "less" (defArgs s_less) (defBody s_less) (defScope s_less) .none kV10 dc10 pm10 an10 cd10 ct10), sl10⟩)
    (c10 : PySem.W.codeIn K cd10 "less" = true)
    (k10 : PySem.W.keepIn K (.ref f10) = true)
    (a11 : PySem.W.nsIn K mainGlobals "write_ratio" = some (some (.ref f11)))
    (l11 : K.lookup f11 = some ⟨oc11, od11, .func (PySem.W.fnOf "write_ratio" "write_ratio" (defArgs s_write_ratio) (defBody s_write_ratio) (defScope s_write_ratio) .none kV11 dc11 pm11 an11 cd11 ct11), sl11⟩)
    (c11 : PySem.W.codeIn K cd11 "write_ratio" = true)
    (k11 : PySem.W.keepIn K (.ref f11) = true)
    (a12 : PySem.W.nsIn K mainGlobals "_law_bag_of" = some (some (.ref f12)))
    (l12 : K.lookup f12 = some ⟨oc12, od12, .func (PySem.W.fnOf "_law_bag_of" "_law_bag_of" (defArgs s__law_bag_of) (defBody s__law_bag_of) (defScope s__law_bag_of) .none kV12 dc12 pm12 an12 cd12 ct12), sl12⟩)
    (c12 : PySem.W.codeIn K cd12 "_law_bag_of" = true)
    (k12 : PySem.W.keepIn K (.ref f12) = true)
    (a13 : PySem.W.nsIn K mainGlobals "_law_pick" = some (some (.ref f13)))
    (l13 : K.lookup f13 = some ⟨oc13, od13, .func (PySem.W.fnOf "_law_pick" "_law_pick" (defArgs s__law_pick) (defBody s__law_pick) (defScope s__law_pick) .none kV13 dc13 pm13 an13 cd13 ct13), sl13⟩)
    (c13 : PySem.W.codeIn K cd13 "_law_pick" = true)
    (k13 : PySem.W.keepIn K (.ref f13) = true)
    (a14 : PySem.W.nsIn K mainGlobals "_law_choice" = some (some (.ref f14)))
    (l14 : K.lookup f14 = some ⟨oc14, od14, .func (PySem.W.fnOf "_law_choice" "_law_choice" (defArgs s__law_choice) (defBody s__law_choice) (defScope s__law_choice) .none kV14 dc14 pm14 an14 cd14 ct14), sl14⟩)
    (c14 : PySem.W.codeIn K cd14 "_law_choice" = true)
    (k14 : PySem.W.keepIn K (.ref f14) = true)
    (a15 : PySem.W.nsIn K mainGlobals "_law_one_in" = some (some (.ref f15)))
    (l15 : K.lookup f15 = some ⟨oc15, od15, .func (PySem.W.fnOf "_law_one_in" "_law_one_in" (defArgs s__law_one_in) (defBody s__law_one_in) (defScope s__law_one_in) .none kV15 dc15 pm15 an15 cd15 ct15), sl15⟩)
    (c15 : PySem.W.codeIn K cd15 "_law_one_in" = true)
    (k15 : PySem.W.keepIn K (.ref f15) = true)
    (a16 : PySem.W.nsIn K mainGlobals "_law_shuffled" = some (some (.ref f16)))
    (l16 : K.lookup f16 = some ⟨oc16, od16, .func (PySem.W.fnOf "_law_shuffled" "_law_shuffled" (defArgs s__law_shuffled) (defBody s__law_shuffled) (defScope s__law_shuffled) .none kV16 dc16 pm16 an16 cd16 ct16), sl16⟩)
    (c16 : PySem.W.codeIn K cd16 "_law_shuffled" = true)
    (k16 : PySem.W.keepIn K (.ref f16) = true)
    (a17 : PySem.W.nsIn K mainGlobals "_law_integer" = some (some (.ref f17)))
    (l17 : K.lookup f17 = some ⟨oc17, od17, .func (PySem.W.fnOf "_law_integer" "_law_integer" (defArgs s__law_integer) (defBody s__law_integer) (defScope s__law_integer) .none kV17 dc17 pm17 an17 cd17 ct17), sl17⟩)
    (c17 : PySem.W.codeIn K cd17 "_law_integer" = true)
    (k17 : PySem.W.keepIn K (.ref f17) = true)
    (a18 : PySem.W.nsIn K mainGlobals "_law_plain" = some (some (.ref f18)))
    (l18 : K.lookup f18 = some ⟨oc18, od18, .func (PySem.W.fnOf "_law_plain" "_law_plain" (defArgs s__law_plain) (defBody s__law_plain) (defScope s__law_plain) .none kV18 dc18 pm18 an18 cd18 ct18), sl18⟩)
    (c18 : PySem.W.codeIn K cd18 "_law_plain" = true)
    (k18 : PySem.W.keepIn K (.ref f18) = true)
    (a19 : PySem.W.nsIn K mainGlobals "_law_lists" = some (some (.ref f19)))
    (l19 : K.lookup f19 = some ⟨oc19, od19, .func (PySem.W.fnOf "_law_lists" "_law_lists" (defArgs s__law_lists) (defBody s__law_lists) (defScope s__law_lists) .none kV19 dc19 pm19 an19 cd19 ct19), sl19⟩)
    (c19 : PySem.W.codeIn K cd19 "_law_lists" = true)
    (k19 : PySem.W.keepIn K (.ref f19) = true)
    (a20 : PySem.W.nsIn K mainGlobals "_law_tuples" = some (some (.ref f20)))
    (l20 : K.lookup f20 = some ⟨oc20, od20, .func (PySem.W.fnOf "_law_tuples" "_law_tuples" (defArgs s__law_tuples) (defBody s__law_tuples) (defScope s__law_tuples) .none kV20 dc20 pm20 an20 cd20 ct20), sl20⟩)
    (c20 : PySem.W.codeIn K cd20 "_law_tuples" = true)
    (k20 : PySem.W.keepIn K (.ref f20) = true)
    (a21 : PySem.W.nsIn K mainGlobals "_law_spelled" = some (some (.ref f21)))
    (l21 : K.lookup f21 = some ⟨oc21, od21, .func (PySem.W.fnOf "_law_spelled" "_law_spelled" (defArgs s__law_spelled) (defBody s__law_spelled) (defScope s__law_spelled) .none kV21 dc21 pm21 an21 cd21 ct21), sl21⟩)
    (c21 : PySem.W.codeIn K cd21 "_law_spelled" = true)
    (k21 : PySem.W.keepIn K (.ref f21) = true)
    (a22 : PySem.W.nsIn K mainGlobals "_law_reserved" = some (some (.ref f22)))
    (l22 : K.lookup f22 = some ⟨oc22, od22, .func (PySem.W.fnOf "_law_reserved" "_law_reserved" (defArgs s__law_reserved) (defBody s__law_reserved) (defScope s__law_reserved) .none kV22 dc22 pm22 an22 cd22 ct22), sl22⟩)
    (c22 : PySem.W.codeIn K cd22 "_law_reserved" = true)
    (k22 : PySem.W.keepIn K (.ref f22) = true)
    (a23 : PySem.W.nsIn K mainGlobals "_law_common" = some (some (.ref f23)))
    (l23 : K.lookup f23 = some ⟨oc23, od23, .func (PySem.W.fnOf "_law_common" "_law_common" (defArgs s__law_common) (defBody s__law_common) (defScope s__law_common) .none kV23 dc23 pm23 an23 cd23 ct23), sl23⟩)
    (c23 : PySem.W.codeIn K cd23 "_law_common" = true)
    (k23 : PySem.W.keepIn K (.ref f23) = true)
    (a24 : PySem.W.nsIn K mainGlobals "_law_ratio" = some (some (.ref f24)))
    (l24 : K.lookup f24 = some ⟨oc24, od24, .func (PySem.W.fnOf "_law_ratio" "_law_ratio" (defArgs s__law_ratio) (defBody s__law_ratio) (defScope s__law_ratio) .none kV24 dc24 pm24 an24 cd24 ct24), sl24⟩)
    (c24 : PySem.W.codeIn K cd24 "_law_ratio" = true)
    (k24 : PySem.W.keepIn K (.ref f24) = true)
    (a25 : PySem.W.nsIn K mainGlobals "_law_plus" = some (some (.ref f25)))
    (l25 : K.lookup f25 = some ⟨oc25, od25, .func (PySem.W.fnOf "_law_plus" "_law_plus" (defArgs s__law_plus) (defBody s__law_plus) (defScope s__law_plus) .none kV25 dc25 pm25 an25 cd25 ct25), sl25⟩)
    (c25 : PySem.W.codeIn K cd25 "_law_plus" = true)
    (k25 : PySem.W.keepIn K (.ref f25) = true)
    (a26 : PySem.W.nsIn K mainGlobals "_law_number_of" = some (some (.ref f26)))
    (l26 : K.lookup f26 = some ⟨oc26, od26, .func (PySem.W.fnOf "_law_number_of" "_law_number_of" (defArgs s__law_number_of) (defBody s__law_number_of) (defScope s__law_number_of) .none kV26 dc26 pm26 an26 cd26 ct26), sl26⟩)
    (c26 : PySem.W.codeIn K cd26 "_law_number_of" = true)
    (k26 : PySem.W.keepIn K (.ref f26) = true)
    (a27 : PySem.W.nsIn K mainGlobals "_law_drawn" = some (some (.ref f27)))
    (l27 : K.lookup f27 = some ⟨oc27, od27, .func (PySem.W.fnOf "_law_drawn" "_law_drawn" (defArgs s__law_drawn) (defBody s__law_drawn) (defScope s__law_drawn) .none kV27 dc27 pm27 an27 cd27 ct27), sl27⟩)
    (c27 : PySem.W.codeIn K cd27 "_law_drawn" = true)
    (k27 : PySem.W.keepIn K (.ref f27) = true)
    (a28 : PySem.W.nsIn K mainGlobals "_law_made" = some (some (.ref f28)))
    (l28 : K.lookup f28 = some ⟨oc28, od28, .func (PySem.W.fnOf "_law_made" "_law_made" (defArgs s__law_made) (defBody s__law_made) (defScope s__law_made) .none kV28 dc28 pm28 an28 cd28 ct28), sl28⟩)
    (c28 : PySem.W.codeIn K cd28 "_law_made" = true)
    (k28 : PySem.W.keepIn K (.ref f28) = true)
    (a29 : PySem.W.nsIn K mainGlobals "_law_made_right" = some (some (.ref f29)))
    (l29 : K.lookup f29 = some ⟨oc29, od29, .func (PySem.W.fnOf "_law_made_right" "_law_made_right" (defArgs s__law_made_right) (defBody s__law_made_right) (defScope s__law_made_right) .none kV29 dc29 pm29 an29 cd29 ct29), sl29⟩)
    (c29 : PySem.W.codeIn K cd29 "_law_made_right" = true)
    (k29 : PySem.W.keepIn K (.ref f29) = true)
    (a30 : PySem.W.nsIn K mainGlobals "_law_sum" = some (some (.ref f30)))
    (l30 : K.lookup f30 = some ⟨oc30, od30, .func (PySem.W.fnOf "_law_sum" "_law_sum" (defArgs s__law_sum) (defBody s__law_sum) (defScope s__law_sum) .none kV30 dc30 pm30 an30 cd30 ct30), sl30⟩)
    (c30 : PySem.W.codeIn K cd30 "_law_sum" = true)
    (k30 : PySem.W.keepIn K (.ref f30) = true)
    (a31 : PySem.W.nsIn K mainGlobals "_law_sums_right" = some (some (.ref f31)))
    (l31 : K.lookup f31 = some ⟨oc31, od31, .func (PySem.W.fnOf "_law_sums_right" "_law_sums_right" (defArgs s__law_sums_right) (defBody s__law_sums_right) (defScope s__law_sums_right) .none kV31 dc31 pm31 an31 cd31 ct31), sl31⟩)
    (c31 : PySem.W.codeIn K cd31 "_law_sums_right" = true)
    (k31 : PySem.W.keepIn K (.ref f31) = true)
    (a32 : PySem.W.nsIn K mainGlobals "_law_text" = some (some (.ref f32)))
    (l32 : K.lookup f32 = some ⟨oc32, od32, .func (PySem.W.fnOf "_law_text" "_law_text" (defArgs s__law_text) (defBody s__law_text) (defScope s__law_text) .none kV32 dc32 pm32 an32 cd32 ct32), sl32⟩)
    (c32 : PySem.W.codeIn K cd32 "_law_text" = true)
    (k32 : PySem.W.keepIn K (.ref f32) = true)
    (a33 : PySem.W.nsIn K mainGlobals "_law_truth" = some (some (.ref f33)))
    (l33 : K.lookup f33 = some ⟨oc33, od33, .func (PySem.W.fnOf "_law_truth" "_law_truth" (defArgs s__law_truth) (defBody s__law_truth) (defScope s__law_truth) .none kV33 dc33 pm33 an33 cd33 ct33), sl33⟩)
    (c33 : PySem.W.codeIn K cd33 "_law_truth" = true)
    (k33 : PySem.W.keepIn K (.ref f33) = true)
    (a34 : PySem.W.nsIn K mainGlobals "_law_two_right" = some (some (.ref f34)))
    (l34 : K.lookup f34 = some ⟨oc34, od34, .func (PySem.W.fnOf "_law_two_right" "_law_two_right" (defArgs s__law_two_right) (defBody s__law_two_right) (defScope s__law_two_right) .none kV34 dc34 pm34 an34 cd34 ct34), sl34⟩)
    (c34 : PySem.W.codeIn K cd34 "_law_two_right" = true)
    (k34 : PySem.W.keepIn K (.ref f34) = true)
    (a35 : PySem.W.nsIn K mainGlobals "_law_algebra" = some (some (.ref f35)))
    (l35 : K.lookup f35 = some ⟨oc35, od35, .func (PySem.W.fnOf "_law_algebra" "_law_algebra" (defArgs s__law_algebra) (defBody s__law_algebra) (defScope s__law_algebra) .none kV35 dc35 pm35 an35 cd35 ct35), sl35⟩)
    (c35 : PySem.W.codeIn K cd35 "_law_algebra" = true)
    (k35 : PySem.W.keepIn K (.ref f35) = true)
    (a36 : PySem.W.nsIn K mainGlobals "_law_odd_ratio" = some (some (.ref f36)))
    (l36 : K.lookup f36 = some ⟨oc36, od36, .func (PySem.W.fnOf "_law_odd_ratio" "_law_odd_ratio" (defArgs s__law_odd_ratio) (defBody s__law_odd_ratio) (defScope s__law_odd_ratio) .none kV36 dc36 pm36 an36 cd36 ct36), sl36⟩)
    (c36 : PySem.W.codeIn K cd36 "_law_odd_ratio" = true)
    (k36 : PySem.W.keepIn K (.ref f36) = true)
    (a37 : PySem.W.nsIn K mainGlobals "_law_ratio_fits" = some (some (.ref f37)))
    (l37 : K.lookup f37 = some ⟨oc37, od37, .func (PySem.W.fnOf "_law_ratio_fits" "_law_ratio_fits" (defArgs s__law_ratio_fits) (defBody s__law_ratio_fits) (defScope s__law_ratio_fits) .none kV37 dc37 pm37 an37 cd37 ct37), sl37⟩)
    (c37 : PySem.W.codeIn K cd37 "_law_ratio_fits" = true)
    (k37 : PySem.W.keepIn K (.ref f37) = true)
    (a38 : PySem.W.nsIn K mainGlobals "_law_word_of" = some (some (.ref f38)))
    (l38 : K.lookup f38 = some ⟨oc38, od38, .func (PySem.W.fnOf "_law_word_of" "_law_word_of" (defArgs s__law_word_of) (defBody s__law_word_of) (defScope s__law_word_of) .none kV38 dc38 pm38 an38 cd38 ct38), sl38⟩)
    (c38 : PySem.W.codeIn K cd38 "_law_word_of" = true)
    (k38 : PySem.W.keepIn K (.ref f38) = true)
    (a39 : PySem.W.nsIn K mainGlobals "_law_name_fits" = some (some (.ref f39)))
    (l39 : K.lookup f39 = some ⟨oc39, od39, .func (PySem.W.fnOf "_law_name_fits" "_law_name_fits" (defArgs s__law_name_fits) (defBody s__law_name_fits) (defScope s__law_name_fits) .none kV39 dc39 pm39 an39 cd39 ct39), sl39⟩)
    (c39 : PySem.W.codeIn K cd39 "_law_name_fits" = true)
    (k39 : PySem.W.keepIn K (.ref f39) = true)
    (a40 : PySem.W.nsIn K mainGlobals "_law_names_right" = some (some (.ref f40)))
    (l40 : K.lookup f40 = some ⟨oc40, od40, .func (PySem.W.fnOf "_law_names_right" "_law_names_right" (defArgs s__law_names_right) (defBody s__law_names_right) (defScope s__law_names_right) .none kV40 dc40 pm40 an40 cd40 ct40), sl40⟩)
    (c40 : PySem.W.codeIn K cd40 "_law_names_right" = true)
    (k40 : PySem.W.keepIn K (.ref f40) = true)
    (a41 : PySem.W.nsIn K mainGlobals "law" = some (some (.ref f41)))
    (l41 : K.lookup f41 = some ⟨oc41, od41, .func (PySem.W.fnOf "law" "law" (defArgs s_law) (defBody s_law) (defScope s_law) .none kV41 dc41 pm41 an41 cd41 ct41), sl41⟩)
    (c41 : PySem.W.codeIn K cd41 "law" = true)
    (k41 : PySem.W.keepIn K (.ref f41) = true)
    (z_isinstance : PySem.W.nsIn K mainGlobals "isinstance" = some none)
    (z_str : PySem.W.nsIn K mainGlobals "str" = some none)
    (z_len : PySem.W.nsIn K mainGlobals "len" = some none)
    (z_all : PySem.W.nsIn K mainGlobals "all" = some none)
    (z_int : PySem.W.nsIn K mainGlobals "int" = some none)
    (z_bool : PySem.W.nsIn K mainGlobals "bool" = some none)
    (z_tuple : PySem.W.nsIn K mainGlobals "tuple" = some none)
    (z_list : PySem.W.nsIn K mainGlobals "list" = some none)
    (z_abs : PySem.W.nsIn K mainGlobals "abs" = some none)
    (z_range : PySem.W.nsIn K mainGlobals "range" = some none)
    (z_ValueError : PySem.W.nsIn K mainGlobals "ValueError" = some none)
    (g_BadRatio : PySem.W.nsIn K mainGlobals "BadRatio" = some (some (.ref aBR)))
    (g_StrawError : PySem.W.nsIn K mainGlobals "StrawError" = some (some (.ref aSE)))
    (g_BadFace : PySem.W.nsIn K mainGlobals "BadFace" = some (some (.ref aBF)))
    (gW : PySem.W.nsIn K mainGlobals "WORDS" = some (some (.ref aWo)))
    (lW : K.lookup aWo = some ⟨.type "tuple", odW, .seq itW nW, slW⟩)
    (vW : itW.toList.map strOf = reserved.map some)
    (gL : PySem.W.nsIn K mainGlobals "LETTERS" = some (some (.str "abcdefghijklmnopqrstuvwxyz" tL)))
    (x1 : PySem.W.findIn K (.ref aBR) "__getattribute__" = some (some (.builtin "BaseException.__getattribute__")))
    (x2 : PySem.W.findIn K (.ref aBR) "__getattr__" = some none)
    (x3 : PySem.W.subIn K (.ref aBR) (.type "BaseException") = some true)
    (x4 : PySem.W.hasDictIn K aBR = true)
    (nTop : PySem.W.findIn K (.ref aBR) "top" = some none)
    (nBot : PySem.W.findIn K (.ref aBR) "bottom" = some none)
    (y1 : PySem.W.findIn K (.ref aBR) "__class__" = some (some (.builtin "object.__class__")))
    (y2 : PySem.W.specialIn K (.builtin "object.__class__") "__get__" = some (some (.builtin "getset_descriptor.__get__")))
    (y3 : PySem.W.takesIn K (.builtin "object.__class__") = some true)
    (y4 : PySem.W.mroIn K aBR (.type "object") = some true)
    (xL : K.lookup aBR = some (excClassObj nmB qnB aBR NB bsB [.ref aSE, .type "ValueError", .type "Exception", .type "BaseException", .type "object"] true snB subB abB colB ddB m0 m1 m2 m3 m5 "ValueError.__new__"))
    (sa : PySem.W.findIn K (.ref aBR) "__setattr__" = some (some (.builtin "object.__setattr__")))
    (tyC : PySem.W.typeIn K (.ref aBR) = some (.type "type"))
    (kC : PySem.W.keepIn K (.ref aBR) = true)
    (ini : PySem.W.findIn K (.ref aBR) "__init__" = some (some (.ref fB)))
    (tyf : PySem.W.typeIn K (.ref fB) = some (.type "function"))
    (lB : K.lookup fB = some ⟨ocB, odB, .func (PySem.W.ksFn "__init__" "BadRatio.__init__" (defArgs sBR) (defBody sBR) (defScope sBR) .none kVB dcB pmB anB (.ref cdaB) ctB ccB), slB⟩)
    (cB : PySem.W.codeIn K (.ref cdaB) "BadRatio.__init__" = true)
    (lcd : K.lookup cdaB = some ⟨cclB, cddB, .fields cvsB, ccsB⟩)
    (v2 : cvsB[2]? = some (.str flB tfB))
    (flE : ((l.prog.main.file : Str) == flB) = true)
    (lcc : K.lookup ccB = some ⟨ccl2, ccd2, .cell (some (.ref aBR)), ccs2⟩)
    (al1 : PySem.W.clsIn K aBR = some cdC)
    (ah1 : PySem.W.findIn K (.ref aSE) "__init__" = some (some (.builtin "ValueError.__init__")))
    (ah2 : K.lookup aSE = some ⟨cSE, dSE, .cls cdS, slSE⟩)
    (ah3 : cdS.mro = [.ref aSE, .type "ValueError", .type "Exception", .type "BaseException", .type "object"])
    (al3 : (cdC.mro.dropWhile (· != .ref aBR)).drop 1 = [.ref aSE, .type "ValueError", .type "Exception", .type "BaseException", .type "object"])
    (mr : PySem.W.mroIn K aBR (.ref aBR) = some true)
    (ve : PySem.W.subIn K (.ref aBR) (.type "ValueError") = some true)
    (tp : (l.prog.main.scope.names.lookup ("super" : Str)).isSome = false)
    (sup : PySem.W.nsIn K mainGlobals "super" = some none)
    (opq : PySem.W.nsIn K cStatics "thirdparty.any" = some none)
    (s1 : PySem.W.subIn K (.ref aSE) (.type "BaseException") = some true)
    (s2 : PySem.W.hasDictIn K aSE = true)
    (s3 : PySem.W.typeIn K (.ref aSE) = some (.type "type"))
    (s4 : PySem.W.subIn K (.ref aBR) (.ref aSE) = some true)
    (s5 : PySem.W.subIn K (.ref aBR) (.ref aBR) = some true)
    (s6 : PySem.W.subIn K (.ref aBR) (.ref aBF) = some false)
    (s7 : PySem.W.hasDictIn K aBF = true)
    (s8 : PySem.W.typeIn K (.ref aBF) = some (.type "type"))
    (s9 : (Value.ref aBR == Value.ref aBF) = false)
    : ∃ fd : FuncData, (∀ (s : Shared) (v : Value), BindsTo s fd ⟨[v], []⟩ [("script", v)]) ∧ ∀ base : Heap, K.In base → base.Ns mainGlobals mg → FnOk l.prog w K mg base (L2.CX l.prog w) 13 fa fd ["script"] (spLaw K) := by
  have e1 := PySem.W.exm_ref x3 x4 tyC s5
  have e2 := PySem.W.exm_ref s1 s2 s3 s4
  have q1 : PySem.W.kitOne K (.ref aBR) (.ref aSE) = some true := kit_ref s2 s3 s4 (.inl rfl)
  have q2 : PySem.W.kitOne K (.ref aBR) (.type "ValueError") = some true := kit_ve ve
  have q3 : PySem.W.kitOne K (.ref aBR) (.ref aBF) = some false := kit_ref s7 s8 s6 (.inr s9)
  have al2 : PySem.W.alongIn K "__init__" [.ref aSE, .type "ValueError", .type "Exception", .type "BaseException", .type "object"] = some (some (.builtin "ValueError.__init__")) := by
    have z : PySem.W.findIn K (.ref aSE) "__init__" = PySem.W.alongIn K "__init__" cdS.mro := by
      unfold PySem.W.findIn
      simp only [ah2]
    rw [← ah3, ← z]
    exact ah1
  have T : Tx K mg (clsOf aBR) fldsOf aBR aSE aBF := ⟨PySem.W.mg_none_of X G z_isinstance, PySem.W.mg_none_of X G z_str, PySem.W.mg_none_of X G z_len, PySem.W.mg_none_of X G z_all, PySem.W.mg_none_of X G z_int, PySem.W.mg_none_of X G z_bool, PySem.W.mg_none_of X G z_tuple, PySem.W.mg_none_of X G z_list, PySem.W.mg_none_of X G z_abs, PySem.W.mg_none_of X G z_range, PySem.W.mg_none_of X G z_ValueError, ⟨.ref aWo, _, PySem.W.mg_of X G gW, rfl, fun r S => .tup (.inr ⟨_, _, _, lW, rfl, rfl, by rw [← Array.length_toList, ← (vals_strs vW).length]; decide, vals_strs vW⟩) (by decide) (strs_at _)⟩, ⟨.str _, _, PySem.W.mg_of X G gL, ⟨_, rfl⟩, fun r S => .str _⟩,
    PySem.W.mg_of X G g_BadRatio, PySem.W.mg_of X G g_StrawError, PySem.W.mg_of X G g_BadFace, clsOf_BR, ⟨x1, x2, x3, x4⟩, by decide, nTop, rfl, nBot, rfl,
    fun n b C h1 h2 => by obtain ⟨rfl, rfl⟩ := only_of h1; rw [clsOf_BR] at h2; cases h2; exact e1, fun n b C h1 h2 => by obtain ⟨rfl, rfl⟩ := only_of h1; rw [clsOf_BR] at h2; cases h2; exact e2,
    fun n b C h1 h2 => by obtain ⟨rfl, rfl⟩ := only_of h1; rw [clsOf_BR] at h2; cases h2; exact ⟨⟨x1, x2, x3, x4, y1, y2, y3, y4⟩, q1⟩, fun n b C h1 h2 => by obtain ⟨rfl, rfl⟩ := only_of h1; rw [clsOf_BR] at h2; cases h2; exact ⟨⟨x1, x2, x3, x4, y1, y2, y3, y4⟩, q2⟩, fun n b C h1 h2 => by obtain ⟨rfl, rfl⟩ := only_of h1; rw [clsOf_BR] at h2; cases h2; exact ⟨⟨x1, x2, x3, x4, y1, y2, y3, y4⟩, q3⟩⟩
  have F0 := fun_mk (st := s_is_name) l0 c0 k0
  have b0 := F0.binds (ps := ["thing"]) fun _ _ _ _ _ _ us hl => match us, hl with | [_], _ => rfl
  have F1 := fun_mk (st := s_is_integer) l1 c1 k1
  have b1 := F1.binds (ps := ["thing", "low", "high"]) fun _ _ _ _ _ _ us hl => match us, hl with | [_, _, _], _ => rfl
  have F2 := fun_mk (st := s_deep) l2 c2 k2
  have b2 := F2.binds (ps := ["thing"]) fun _ _ _ _ _ _ us hl => match us, hl with | [_], _ => rfl
  have F3 := fun_mk (st := s_common) l3 c3 k3
  have b3 := F3.binds (ps := ["first", "second"]) fun _ _ _ _ _ _ us hl => match us, hl with | [_, _], _ => rfl
  have F4 : FunD K "ratio" "ratio" (defArgs s_ratio) (defBody s_ratio) (defScope s_ratio) [V.int 1] [] f4 _ := ⟨⟨_, _, _, _, _, _, _, _, _, _, rfl, l4, c4, .inr ⟨by simp, aD4, _, itD4.toList, nD4, rfl, ld4, rfl, vd4⟩, .inl rfl⟩, k4⟩
  obtain ⟨dsA4, vsA4, bA4⟩ := F4.binds1 (ps := P_ratio) 2 1 (by simp) rfl fun _ _ _ _ _ _ _ us its hu hi => match us, hu, its, hi with | [_, _], _, [_], _ => ⟨_, rfl, rfl⟩
  obtain ⟨dsB4_1, vsB4_1, bB4_1⟩ := F4.binds1 (ps := P_ratio) 1 0 (by simp) rfl fun _ _ _ _ _ _ _ us its hu hi => match us, hu, its, hi with | [_], _, [_], _ => ⟨_, rfl, rfl⟩
  have F5 := fun_mk (st := s_rate_of) l5 c5 k5
  have b5 := F5.binds (ps := ["thing"]) fun _ _ _ _ _ _ us hl => match us, hl with | [_], _ => rfl
  have F6 := fun_mk (st := s_is_ratio) l6 c6 k6
  have b6 := F6.binds (ps := ["thing"]) fun _ _ _ _ _ _ us hl => match us, hl with | [_], _ => rfl
  have F8 := fun_mk (st := s_minus) l8 c8 k8
  have b8 := F8.binds (ps := ["first", "second"]) fun _ _ _ _ _ _ us hl => match us, hl with | [_, _], _ => rfl
  have F9 := fun_mk (st := s_times) l9 c9 k9
  have b9 := F9.binds (ps := ["first", "second"]) fun _ _ _ _ _ _ us hl => match us, hl with | [_, _], _ => rfl
  have F10 := fun_mk (st := s_less) l10 c10 k10
  have b10 := F10.binds (ps := ["first", "second"]) fun _ _ _ _ _ _ us hl => match us, hl with | [_, _], _ => rfl
  have F11 := fun_mk (st := s_write_ratio) l11 c11 k11
  have b11 := F11.binds (ps := ["ratio_told"]) fun _ _ _ _ _ _ us hl => match us, hl with | [_], _ => rfl
  have F12 := fun_mk (st := s__law_bag_of) l12 c12 k12
  have b12 := F12.binds (ps := ["script"]) fun _ _ _ _ _ _ us hl => match us, hl with | [_], _ => rfl
  have F13 := fun_mk (st := s__law_pick) l13 c13 k13
  have b13 := F13.binds (ps := ["bag", "many"]) fun _ _ _ _ _ _ us hl => match us, hl with | [_, _], _ => rfl
  have F14 := fun_mk (st := s__law_choice) l14 c14 k14
  have b14 := F14.binds (ps := ["bag", "things"]) fun _ _ _ _ _ _ us hl => match us, hl with | [_, _], _ => rfl
  have F15 := fun_mk (st := s__law_one_in) l15 c15 k15
  have b15 := F15.binds (ps := ["bag", "many"]) fun _ _ _ _ _ _ us hl => match us, hl with | [_, _], _ => rfl
  have F16 := fun_mk (st := s__law_shuffled) l16 c16 k16
  have b16 := F16.binds (ps := ["bag", "things"]) fun _ _ _ _ _ _ us hl => match us, hl with | [_, _], _ => rfl
  have F17 := fun_mk (st := s__law_integer) l17 c17 k17
  have b17 := F17.binds (ps := ["thing"]) fun _ _ _ _ _ _ us hl => match us, hl with | [_], _ => rfl
  have F18 := fun_mk (st := s__law_plain) l18 c18 k18
  have b18 := F18.binds (ps := ["thing"]) fun _ _ _ _ _ _ us hl => match us, hl with | [_], _ => rfl
  have F19 := fun_mk (st := s__law_lists) l19 c19 k19
  have b19 := F19.binds (ps := ["thing"]) fun _ _ _ _ _ _ us hl => match us, hl with | [_], _ => rfl
  have F20 := fun_mk (st := s__law_tuples) l20 c20 k20
  have b20 := F20.binds (ps := ["thing"]) fun _ _ _ _ _ _ us hl => match us, hl with | [_], _ => rfl
  have F21 := fun_mk (st := s__law_spelled) l21 c21 k21
  have b21 := F21.binds (ps := ["bag", "many"]) fun _ _ _ _ _ _ us hl => match us, hl with | [_, _], _ => rfl
  have F22 := fun_mk (st := s__law_reserved) l22 c22 k22
  have b22 := F22.binds (ps := []) fun _ _ _ _ _ _ us hl => match us, hl with | [], _ => rfl
  have F23 := fun_mk (st := s__law_common) l23 c23 k23
  have b23 := F23.binds (ps := ["first", "second"]) fun _ _ _ _ _ _ us hl => match us, hl with | [_, _], _ => rfl
  have F24 := fun_mk (st := s__law_ratio) l24 c24 k24
  have b24 := F24.binds (ps := ["top", "under"]) fun _ _ _ _ _ _ us hl => match us, hl with | [_, _], _ => rfl
  have F25 := fun_mk (st := s__law_plus) l25 c25 k25
  have b25 := F25.binds (ps := ["first", "second"]) fun _ _ _ _ _ _ us hl => match us, hl with | [_, _], _ => rfl
  have F26 := fun_mk (st := s__law_number_of) l26 c26 k26
  have b26 := F26.binds (ps := ["bag", "size"]) fun _ _ _ _ _ _ us hl => match us, hl with | [_, _], _ => rfl
  have F27 := fun_mk (st := s__law_drawn) l27 c27 k27
  have b27 := F27.binds (ps := ["bag", "size"]) fun _ _ _ _ _ _ us hl => match us, hl with | [_, _], _ => rfl
  have F28 := fun_mk (st := s__law_made) l28 c28 k28
  have b28 := F28.binds (ps := ["top", "low"]) fun _ _ _ _ _ _ us hl => match us, hl with | [_, _], _ => rfl
  have F29 := fun_mk (st := s__law_made_right) l29 c29 k29
  have b29 := F29.binds (ps := ["bag", "size"]) fun _ _ _ _ _ _ us hl => match us, hl with | [_, _], _ => rfl
  have F30 := fun_mk (st := s__law_sum) l30 c30 k30
  have b30 := F30.binds (ps := ["rows"]) fun _ _ _ _ _ _ us hl => match us, hl with | [_], _ => rfl
  have F31 := fun_mk (st := s__law_sums_right) l31 c31 k31
  have b31 := F31.binds (ps := ["bag", "rows"]) fun _ _ _ _ _ _ us hl => match us, hl with | [_, _], _ => rfl
  have F32 := fun_mk (st := s__law_text) l32 c32 k32
  have b32 := F32.binds (ps := ["told"]) fun _ _ _ _ _ _ us hl => match us, hl with | [_], _ => rfl
  have F33 := fun_mk (st := s__law_truth) l33 c33 k33
  have b33 := F33.binds (ps := ["found", "due"]) fun _ _ _ _ _ _ us hl => match us, hl with | [_, _], _ => rfl
  have F34 := fun_mk (st := s__law_two_right) l34 c34 k34
  have b34 := F34.binds (ps := ["one", "two"]) fun _ _ _ _ _ _ us hl => match us, hl with | [_, _], _ => rfl
  have F35 := fun_mk (st := s__law_algebra) l35 c35 k35
  have b35 := F35.binds (ps := ["one", "two", "third"]) fun _ _ _ _ _ _ us hl => match us, hl with | [_, _, _], _ => rfl
  have F36 := fun_mk (st := s__law_odd_ratio) l36 c36 k36
  have b36 := F36.binds (ps := ["bag"]) fun _ _ _ _ _ _ us hl => match us, hl with | [_], _ => rfl
  have F37 := fun_mk (st := s__law_ratio_fits) l37 c37 k37
  have b37 := F37.binds (ps := ["thing"]) fun _ _ _ _ _ _ us hl => match us, hl with | [_], _ => rfl
  have F38 := fun_mk (st := s__law_word_of) l38 c38 k38
  have b38 := F38.binds (ps := ["bag"]) fun _ _ _ _ _ _ us hl => match us, hl with | [_], _ => rfl
  have F39 := fun_mk (st := s__law_name_fits) l39 c39 k39
  have b39 := F39.binds (ps := ["thing"]) fun _ _ _ _ _ _ us hl => match us, hl with | [_], _ => rfl
  have F40 := fun_mk (st := s__law_names_right) l40 c40 k40
  have b40 := F40.binds (ps := ["bag"]) fun _ _ _ _ _ _ us hl => match us, hl with | [_], _ => rfl
  have F41 := fun_mk (st := s_law) l41 c41 k41
  have ox : OexC K aBR := ⟨⟨_, _, _, _, _, _, _, _, _, _, _, _, _, _, _, xL, rfl⟩, sa, x3, tyC, kC⟩
  have SB : SupC l.prog K "BadRatio.__init__" (defArgs sBR) (defBody sBR) (defScope sBR) aBR fB ["top", "bottom"] := ⟨⟨_, _, _, _, _, _, _, _, _, _, _, _, _, _, _, _, _, _, _, lB, cB, lcd, v2, flE, lcc⟩, ⟨_, al1, by rw [al3]; exact al2⟩, mr, ve, tp, sup, opq, ox, ini, tyf, fun x hx => by simp only [List.mem_cons, List.not_mem_nil, or_false] at hx; rcases hx with rfl | rfl; exact nTop; exact nBot⟩
  have e := hfa.symm.trans (PySem.W.mg_of X G a41)
  cases e
  refine ⟨PySem.W.fnOf "law" "law" (defArgs s_law) (defBody s_law) (defScope s_law) .none kV41 dc41 pm41 an41 cd41 ct41, fun s v => .of_eq rfl, fun base _ _ => ?_⟩
  have M_BadRatio : XMk l.prog w K mg base (clsOf aBR) fldsOf "BadRatio" ["top", "bottom"] := by
    obtain ⟨fdB, okB, bdB⟩ := ok_BR (w := w) (mg := mg) (base := base) SB
    exact ⟨aBR, fB, fdB, 1, _, PySem.W.mg_of X G g_BadRatio, clsOf_BR, rfl, by decide, ox, ini, tyf, okB, bdB⟩
  have C_is_name : Cal l.prog w K mg base (clsOf aBR) fldsOf 1 "is_name" sp_is_name := Cal.of (fnD F0 sc_is_name (fun ds Q E h => len_is_name h) (fun Xd => t_is_name Xd) (fun Fr Xd cdv A outer s H E hr tk => d_is_name T   Fr Xd cdv A outer s H E hr tk) fun ds Qd Xd h => rd_is_name h) (PySem.W.mg_of X G a0) k0 b0
  have C_is_integer : Cal l.prog w K mg base (clsOf aBR) fldsOf 1 "is_integer" sp_is_integer := Cal.of (fnD F1 sc_is_integer (fun ds Q E h => len_is_integer h) (fun Xd => t_is_integer Xd) (fun Fr Xd cdv A outer s H E hr tk => d_is_integer T   Fr Xd cdv A outer s H E hr tk) fun ds Qd Xd h => rd_is_integer h) (PySem.W.mg_of X G a1) k1 b1
  have C0_deep : Cal l.prog w K mg base (clsOf aBR) fldsOf 0 "deep" never := Cal.never (PySem.W.mg_of X G a2) k2
  have C1_deep : Cal l.prog w K mg base (clsOf aBR) fldsOf 1 "deep" (sp_deep 0) := Cal.of (fnD F2 sc_deep (fun ds Q E h => len_deep h) (fun Xd => t_deep _ Xd) (fun Fr Xd cdv A outer s H E hr tk => d_deep T C0_deep Fr Xd cdv A outer s H E hr tk) fun ds Qd Xd h => rd_deep0 h) (PySem.W.mg_of X G a2) k2 b2
  have C2_deep : Cal l.prog w K mg base (clsOf aBR) fldsOf 2 "deep" (sp_deep 1) := Cal.of (fnD F2 sc_deep (fun ds Q E h => len_deep h) (fun Xd => t_deep _ Xd) (fun Fr Xd cdv A outer s H E hr tk => d_deep T C1_deep Fr Xd cdv A outer s H E hr tk) fun ds Qd Xd h => rd_deep h) (PySem.W.mg_of X G a2) k2 b2
  have C3_deep : Cal l.prog w K mg base (clsOf aBR) fldsOf 3 "deep" (sp_deep 2) := Cal.of (fnD F2 sc_deep (fun ds Q E h => len_deep h) (fun Xd => t_deep _ Xd) (fun Fr Xd cdv A outer s H E hr tk => d_deep T C2_deep Fr Xd cdv A outer s H E hr tk) fun ds Qd Xd h => rd_deep h) (PySem.W.mg_of X G a2) k2 b2
  have C4_deep : Cal l.prog w K mg base (clsOf aBR) fldsOf 4 "deep" (sp_deep 3) := Cal.of (fnD F2 sc_deep (fun ds Q E h => len_deep h) (fun Xd => t_deep _ Xd) (fun Fr Xd cdv A outer s H E hr tk => d_deep T C3_deep Fr Xd cdv A outer s H E hr tk) fun ds Qd Xd h => rd_deep h) (PySem.W.mg_of X G a2) k2 b2
  have C5_deep : Cal l.prog w K mg base (clsOf aBR) fldsOf 5 "deep" (sp_deep 4) := Cal.of (fnD F2 sc_deep (fun ds Q E h => len_deep h) (fun Xd => t_deep _ Xd) (fun Fr Xd cdv A outer s H E hr tk => d_deep T C4_deep Fr Xd cdv A outer s H E hr tk) fun ds Qd Xd h => rd_deep h) (PySem.W.mg_of X G a2) k2 b2
  have C6_deep : Cal l.prog w K mg base (clsOf aBR) fldsOf 6 "deep" (sp_deep 5) := Cal.of (fnD F2 sc_deep (fun ds Q E h => len_deep h) (fun Xd => t_deep _ Xd) (fun Fr Xd cdv A outer s H E hr tk => d_deep T C5_deep Fr Xd cdv A outer s H E hr tk) fun ds Qd Xd h => rd_deep h) (PySem.W.mg_of X G a2) k2 b2
  have C7_deep : Cal l.prog w K mg base (clsOf aBR) fldsOf 7 "deep" (sp_deep 6) := Cal.of (fnD F2 sc_deep (fun ds Q E h => len_deep h) (fun Xd => t_deep _ Xd) (fun Fr Xd cdv A outer s H E hr tk => d_deep T C6_deep Fr Xd cdv A outer s H E hr tk) fun ds Qd Xd h => rd_deep h) (PySem.W.mg_of X G a2) k2 b2
  have C8_deep : Cal l.prog w K mg base (clsOf aBR) fldsOf 8 "deep" (sp_deep 7) := Cal.of (fnD F2 sc_deep (fun ds Q E h => len_deep h) (fun Xd => t_deep _ Xd) (fun Fr Xd cdv A outer s H E hr tk => d_deep T C7_deep Fr Xd cdv A outer s H E hr tk) fun ds Qd Xd h => rd_deep h) (PySem.W.mg_of X G a2) k2 b2
  have C9_deep : Cal l.prog w K mg base (clsOf aBR) fldsOf 9 "deep" (sp_deep 8) := Cal.of (fnD F2 sc_deep (fun ds Q E h => len_deep h) (fun Xd => t_deep _ Xd) (fun Fr Xd cdv A outer s H E hr tk => d_deep T C8_deep Fr Xd cdv A outer s H E hr tk) fun ds Qd Xd h => rd_deep h) (PySem.W.mg_of X G a2) k2 b2
  have C_deep := C9_deep
  have C_common : Cal l.prog w K mg base (clsOf aBR) fldsOf 1 "common" sp_common := Cal.of (fnD F3 sc_common (fun ds Q E h => len_common h) (fun Xd => t_common Xd) (fun Fr Xd cdv A outer s H E hr tk => d_common T   Fr Xd cdv A outer s H E hr tk) fun ds Qd Xd h => rd_common h) (PySem.W.mg_of X G a3) k3 b3
  have CN_ratio : Cal l.prog w K mg base (clsOf aBR) fldsOf 2 "ratio" never := Cal.never (PySem.W.mg_of X G a4) k4
  have C0_ratio : Cal l.prog w K mg base (clsOf aBR) fldsOf 3 "ratio" sp_ratio0 := (Cal.imp (Cal.ofD (dvs := []) (fnD_dfl F4 sc_ratio (fun ds Q E h => len_ratio0 h) (fun Xd => t_ratio never Xd) (fun Fr Xd cdv A outer s H E hr tk => d_ratio T CN_ratio (C_common.mono (by decide : 1 ≤ 2)) M_BadRatio Fr Xd cdv A outer s H E hr (hr.mono (by decide)) tk) fun ds Qd Xd h => rd_ratio0 h) (PySem.W.mg_of X G a4) k4 bA4 vsA4 fun _ _ => .nil) fun ds Q E h => by rw [List.append_nil]; exact h)
  have Fn_ratio : FnOk l.prog w K mg base (L2.CX l.prog w) 4 f4 _ P_ratio (liftSp ⟨K, (clsOf aBR), fldsOf⟩ sp_ratio) := fnD_dfl F4 sc_ratio (fun ds Q E h => len_ratio h) (fun Xd => t_ratio sp_ratio0 Xd) (fun Fr Xd cdv A outer s H E hr tk => d_ratio T C0_ratio (C_common.mono (by decide : 1 ≤ 3)) M_BadRatio Fr Xd cdv A outer s H E hr (hr.mono (by decide)) tk) fun ds Qd Xd h => rd_ratio h
  have C_ratio : Cal l.prog w K mg base (clsOf aBR) fldsOf 4 "ratio" sp_ratio := (Cal.imp (Cal.ofD (dvs := []) Fn_ratio (PySem.W.mg_of X G a4) k4 bA4 vsA4 fun _ _ => .nil) fun ds Q E h => by rw [List.append_nil]; exact h)
  have C_ratio_1 : Cal l.prog w K mg base (clsOf aBR) fldsOf 4 "ratio" sp_ratio_1 := Cal.ofD (dvs := [.int 1]) Fn_ratio (PySem.W.mg_of X G a4) k4 bB4_1 vsB4_1 fun _ _ => .cons (.int 1) .nil
  have C_rate_of : Cal l.prog w K mg base (clsOf aBR) fldsOf 10 "rate_of" sp_rate_of := Cal.of (fnD F5 sc_rate_of (fun ds Q E h => len_rate_of h) (fun Xd => t_rate_of Xd) (fun Fr Xd cdv A outer s H E hr tk => d_rate_of T (C_deep.mono (by decide : 9 ≤ 9)) (C_is_integer.mono (by decide : 1 ≤ 9)) (C_common.mono (by decide : 1 ≤ 9))  Fr Xd cdv A outer s H E hr tk) fun ds Qd Xd h => rd_rate_of h) (PySem.W.mg_of X G a5) k5 b5
  have C_is_ratio : Cal l.prog w K mg base (clsOf aBR) fldsOf 11 "is_ratio" sp_is_ratio := Cal.of (fnD F6 sc_is_ratio (fun ds Q E h => len_is_ratio h) (fun Xd => t_is_ratio Xd) (fun Fr Xd cdv A outer s H E hr tk => d_is_ratio T (C_rate_of.mono (by decide : 10 ≤ 10))  Fr Xd cdv A outer s H E hr tk) fun ds Qd Xd h => rd_is_ratio h) (PySem.W.mg_of X G a6) k6 b6
  have C_plus : Cal l.prog w K mg base (clsOf aBR) fldsOf 5 "plus" sp_plus := calD_star (pv := "ratios") l7 c7 (PySem.W.mg_of X G a7) k7 sc_plus (fun us rest hu => match us, hu, rest with | [], _, [] => rfl | [], _, _ :: _ => rfl) (fun Xd => t_plus Xd) (fun Fr Xd cdv A outer s H E hr tk => d_plus T (C_ratio.mono (by decide : 4 ≤ 4))  Fr Xd cdv A outer s H E hr tk) fun ds Qd Xd h => rd_plus h
  have C_minus : Cal l.prog w K mg base (clsOf aBR) fldsOf 5 "minus" sp_minus := Cal.of (fnD F8 sc_minus (fun ds Q E h => len_minus h) (fun Xd => t_minus Xd) (fun Fr Xd cdv A outer s H E hr tk => d_minus T (C_ratio.mono (by decide : 4 ≤ 4))  Fr Xd cdv A outer s H E hr tk) fun ds Qd Xd h => rd_minus h) (PySem.W.mg_of X G a8) k8 b8
  have C_times : Cal l.prog w K mg base (clsOf aBR) fldsOf 5 "times" sp_times := Cal.of (fnD F9 sc_times (fun ds Q E h => len_times h) (fun Xd => t_times Xd) (fun Fr Xd cdv A outer s H E hr tk => d_times T (C_ratio.mono (by decide : 4 ≤ 4))  Fr Xd cdv A outer s H E hr tk) fun ds Qd Xd h => rd_times h) (PySem.W.mg_of X G a9) k9 b9
  have C_less : Cal l.prog w K mg base (clsOf aBR) fldsOf 1 "less" sp_less := Cal.of (fnD F10 sc_less (fun ds Q E h => len_less h) (fun Xd => t_less Xd) (fun Fr Xd cdv A outer s H E hr tk => d_less T   Fr Xd cdv A outer s H E hr tk) fun ds Qd Xd h => rd_less h) (PySem.W.mg_of X G a10) k10 b10
  have C_write_ratio : Cal l.prog w K mg base (clsOf aBR) fldsOf 1 "write_ratio" sp_write_ratio := Cal.of (fnD F11 sc_write_ratio (fun ds Q E h => len_write_ratio h) (fun Xd => t_write_ratio Xd) (fun Fr Xd cdv A outer s H E hr tk => d_write_ratio T   Fr Xd cdv A outer s H E hr tk) fun ds Qd Xd h => rd_write_ratio h) (PySem.W.mg_of X G a11) k11 b11
  have B__law_bag_of : FnOk l.prog w K mg base (L2.CX l.prog w) 1 f12 _ ["script"] (spBagOf K) := fn_bagOf (cls := (clsOf aBR)) (flds := fldsOf) F12 sc__law_bag_of fun Fr cdv A outer s H E hr tk => d__law_bag_of T Fr cdv A outer s H E hr tk
  have C__law_pick : Cal l.prog w K mg base (clsOf aBR) fldsOf 1 "_law_pick" sp__law_pick := Cal.of (fn_pick F13 sc__law_pick fun cdv A outer s H E hr => d__law_pick T cdv A outer s H E hr) (PySem.W.mg_of X G a13) k13 b13
  have C__law_choice : Cal l.prog w K mg base (clsOf aBR) fldsOf 2 "_law_choice" sp__law_choice := Cal.of (fnD F14 sc__law_choice (fun ds Q E h => len__law_choice h) (fun Xd => t__law_choice Xd) (fun Fr Xd cdv A outer s H E hr tk => d__law_choice T (C__law_pick.mono (by decide : 1 ≤ 1))  Fr Xd cdv A outer s H E hr tk) fun ds Qd Xd h => rd__law_choice h) (PySem.W.mg_of X G a14) k14 b14
  have C__law_one_in : Cal l.prog w K mg base (clsOf aBR) fldsOf 2 "_law_one_in" sp__law_one_in := Cal.of (fnD F15 sc__law_one_in (fun ds Q E h => len__law_one_in h) (fun Xd => t__law_one_in Xd) (fun Fr Xd cdv A outer s H E hr tk => d__law_one_in T (C__law_pick.mono (by decide : 1 ≤ 1))  Fr Xd cdv A outer s H E hr tk) fun ds Qd Xd h => rd__law_one_in h) (PySem.W.mg_of X G a15) k15 b15
  have C__law_shuffled : Cal l.prog w K mg base (clsOf aBR) fldsOf 2 "_law_shuffled" sp__law_shuffled := Cal.of (fnD F16 sc__law_shuffled (fun ds Q E h => len__law_shuffled h) (fun Xd => t__law_shuffled Xd) (fun Fr Xd cdv A outer s H E hr tk => d__law_shuffled T (C__law_pick.mono (by decide : 1 ≤ 1))  Fr Xd cdv A outer s H E hr tk) fun ds Qd Xd h => rd__law_shuffled h) (PySem.W.mg_of X G a16) k16 b16
  have C__law_integer : Cal l.prog w K mg base (clsOf aBR) fldsOf 1 "_law_integer" sp__law_integer := Cal.of (fnD F17 sc__law_integer (fun ds Q E h => len__law_integer h) (fun Xd => t__law_integer Xd) (fun Fr Xd cdv A outer s H E hr tk => d__law_integer T   Fr Xd cdv A outer s H E hr tk) fun ds Qd Xd h => rd__law_integer h) (PySem.W.mg_of X G a17) k17 b17
  have C0__law_plain : Cal l.prog w K mg base (clsOf aBR) fldsOf 1 "_law_plain" never := Cal.never (PySem.W.mg_of X G a18) k18
  have C1__law_plain : Cal l.prog w K mg base (clsOf aBR) fldsOf 2 "_law_plain" (sp__law_plain 0) := Cal.of (fnD F18 sc__law_plain (fun ds Q E h => len__law_plain h) (fun Xd => t__law_plain _ Xd) (fun Fr Xd cdv A outer s H E hr tk => d__law_plain T C0__law_plain (C__law_integer.mono (by decide : 1 ≤ 1)) Fr Xd cdv A outer s H E hr tk) fun ds Qd Xd h => rd__law_plain0 h) (PySem.W.mg_of X G a18) k18 b18
  have C2__law_plain : Cal l.prog w K mg base (clsOf aBR) fldsOf 3 "_law_plain" (sp__law_plain 1) := Cal.of (fnD F18 sc__law_plain (fun ds Q E h => len__law_plain h) (fun Xd => t__law_plain _ Xd) (fun Fr Xd cdv A outer s H E hr tk => d__law_plain T C1__law_plain (C__law_integer.mono (by decide : 1 ≤ 2)) Fr Xd cdv A outer s H E hr tk) fun ds Qd Xd h => rd__law_plain (by decide) h) (PySem.W.mg_of X G a18) k18 b18
  have C3__law_plain : Cal l.prog w K mg base (clsOf aBR) fldsOf 4 "_law_plain" (sp__law_plain 2) := Cal.of (fnD F18 sc__law_plain (fun ds Q E h => len__law_plain h) (fun Xd => t__law_plain _ Xd) (fun Fr Xd cdv A outer s H E hr tk => d__law_plain T C2__law_plain (C__law_integer.mono (by decide : 1 ≤ 3)) Fr Xd cdv A outer s H E hr tk) fun ds Qd Xd h => rd__law_plain (by decide) h) (PySem.W.mg_of X G a18) k18 b18
  have C4__law_plain : Cal l.prog w K mg base (clsOf aBR) fldsOf 5 "_law_plain" (sp__law_plain 3) := Cal.of (fnD F18 sc__law_plain (fun ds Q E h => len__law_plain h) (fun Xd => t__law_plain _ Xd) (fun Fr Xd cdv A outer s H E hr tk => d__law_plain T C3__law_plain (C__law_integer.mono (by decide : 1 ≤ 4)) Fr Xd cdv A outer s H E hr tk) fun ds Qd Xd h => rd__law_plain (by decide) h) (PySem.W.mg_of X G a18) k18 b18
  have C5__law_plain : Cal l.prog w K mg base (clsOf aBR) fldsOf 6 "_law_plain" (sp__law_plain 4) := Cal.of (fnD F18 sc__law_plain (fun ds Q E h => len__law_plain h) (fun Xd => t__law_plain _ Xd) (fun Fr Xd cdv A outer s H E hr tk => d__law_plain T C4__law_plain (C__law_integer.mono (by decide : 1 ≤ 5)) Fr Xd cdv A outer s H E hr tk) fun ds Qd Xd h => rd__law_plain (by decide) h) (PySem.W.mg_of X G a18) k18 b18
  have C6__law_plain : Cal l.prog w K mg base (clsOf aBR) fldsOf 7 "_law_plain" (sp__law_plain 5) := Cal.of (fnD F18 sc__law_plain (fun ds Q E h => len__law_plain h) (fun Xd => t__law_plain _ Xd) (fun Fr Xd cdv A outer s H E hr tk => d__law_plain T C5__law_plain (C__law_integer.mono (by decide : 1 ≤ 6)) Fr Xd cdv A outer s H E hr tk) fun ds Qd Xd h => rd__law_plain (by decide) h) (PySem.W.mg_of X G a18) k18 b18
  have C7__law_plain : Cal l.prog w K mg base (clsOf aBR) fldsOf 8 "_law_plain" (sp__law_plain 6) := Cal.of (fnD F18 sc__law_plain (fun ds Q E h => len__law_plain h) (fun Xd => t__law_plain _ Xd) (fun Fr Xd cdv A outer s H E hr tk => d__law_plain T C6__law_plain (C__law_integer.mono (by decide : 1 ≤ 7)) Fr Xd cdv A outer s H E hr tk) fun ds Qd Xd h => rd__law_plain (by decide) h) (PySem.W.mg_of X G a18) k18 b18
  have C8__law_plain : Cal l.prog w K mg base (clsOf aBR) fldsOf 9 "_law_plain" (sp__law_plain 7) := Cal.of (fnD F18 sc__law_plain (fun ds Q E h => len__law_plain h) (fun Xd => t__law_plain _ Xd) (fun Fr Xd cdv A outer s H E hr tk => d__law_plain T C7__law_plain (C__law_integer.mono (by decide : 1 ≤ 8)) Fr Xd cdv A outer s H E hr tk) fun ds Qd Xd h => rd__law_plain (by decide) h) (PySem.W.mg_of X G a18) k18 b18
  have C9__law_plain : Cal l.prog w K mg base (clsOf aBR) fldsOf 10 "_law_plain" (sp__law_plain 8) := Cal.of (fnD F18 sc__law_plain (fun ds Q E h => len__law_plain h) (fun Xd => t__law_plain _ Xd) (fun Fr Xd cdv A outer s H E hr tk => d__law_plain T C8__law_plain (C__law_integer.mono (by decide : 1 ≤ 9)) Fr Xd cdv A outer s H E hr tk) fun ds Qd Xd h => rd__law_plain (by decide) h) (PySem.W.mg_of X G a18) k18 b18
  have C__law_plain := C9__law_plain
  have C0__law_lists : Cal l.prog w K mg base (clsOf aBR) fldsOf 0 "_law_lists" never := Cal.never (PySem.W.mg_of X G a19) k19
  have C1__law_lists : Cal l.prog w K mg base (clsOf aBR) fldsOf 1 "_law_lists" (sp__law_lists 0) := Cal.of (fnD F19 sc__law_lists (fun ds Q E h => len__law_lists h) (fun Xd => t__law_lists _ Xd) (fun Fr Xd cdv A outer s H E hr tk => d__law_lists T C0__law_lists Fr Xd cdv A outer s H E hr tk) fun ds Qd Xd h => rd__law_lists0 h) (PySem.W.mg_of X G a19) k19 b19
  have C2__law_lists : Cal l.prog w K mg base (clsOf aBR) fldsOf 2 "_law_lists" (sp__law_lists 1) := Cal.of (fnD F19 sc__law_lists (fun ds Q E h => len__law_lists h) (fun Xd => t__law_lists _ Xd) (fun Fr Xd cdv A outer s H E hr tk => d__law_lists T C1__law_lists Fr Xd cdv A outer s H E hr tk) fun ds Qd Xd h => rd__law_lists h) (PySem.W.mg_of X G a19) k19 b19
  have C3__law_lists : Cal l.prog w K mg base (clsOf aBR) fldsOf 3 "_law_lists" (sp__law_lists 2) := Cal.of (fnD F19 sc__law_lists (fun ds Q E h => len__law_lists h) (fun Xd => t__law_lists _ Xd) (fun Fr Xd cdv A outer s H E hr tk => d__law_lists T C2__law_lists Fr Xd cdv A outer s H E hr tk) fun ds Qd Xd h => rd__law_lists h) (PySem.W.mg_of X G a19) k19 b19
  have C4__law_lists : Cal l.prog w K mg base (clsOf aBR) fldsOf 4 "_law_lists" (sp__law_lists 3) := Cal.of (fnD F19 sc__law_lists (fun ds Q E h => len__law_lists h) (fun Xd => t__law_lists _ Xd) (fun Fr Xd cdv A outer s H E hr tk => d__law_lists T C3__law_lists Fr Xd cdv A outer s H E hr tk) fun ds Qd Xd h => rd__law_lists h) (PySem.W.mg_of X G a19) k19 b19
  have C5__law_lists : Cal l.prog w K mg base (clsOf aBR) fldsOf 5 "_law_lists" (sp__law_lists 4) := Cal.of (fnD F19 sc__law_lists (fun ds Q E h => len__law_lists h) (fun Xd => t__law_lists _ Xd) (fun Fr Xd cdv A outer s H E hr tk => d__law_lists T C4__law_lists Fr Xd cdv A outer s H E hr tk) fun ds Qd Xd h => rd__law_lists h) (PySem.W.mg_of X G a19) k19 b19
  have C6__law_lists : Cal l.prog w K mg base (clsOf aBR) fldsOf 6 "_law_lists" (sp__law_lists 5) := Cal.of (fnD F19 sc__law_lists (fun ds Q E h => len__law_lists h) (fun Xd => t__law_lists _ Xd) (fun Fr Xd cdv A outer s H E hr tk => d__law_lists T C5__law_lists Fr Xd cdv A outer s H E hr tk) fun ds Qd Xd h => rd__law_lists h) (PySem.W.mg_of X G a19) k19 b19
  have C7__law_lists : Cal l.prog w K mg base (clsOf aBR) fldsOf 7 "_law_lists" (sp__law_lists 6) := Cal.of (fnD F19 sc__law_lists (fun ds Q E h => len__law_lists h) (fun Xd => t__law_lists _ Xd) (fun Fr Xd cdv A outer s H E hr tk => d__law_lists T C6__law_lists Fr Xd cdv A outer s H E hr tk) fun ds Qd Xd h => rd__law_lists h) (PySem.W.mg_of X G a19) k19 b19
  have C8__law_lists : Cal l.prog w K mg base (clsOf aBR) fldsOf 8 "_law_lists" (sp__law_lists 7) := Cal.of (fnD F19 sc__law_lists (fun ds Q E h => len__law_lists h) (fun Xd => t__law_lists _ Xd) (fun Fr Xd cdv A outer s H E hr tk => d__law_lists T C7__law_lists Fr Xd cdv A outer s H E hr tk) fun ds Qd Xd h => rd__law_lists h) (PySem.W.mg_of X G a19) k19 b19
  have C9__law_lists : Cal l.prog w K mg base (clsOf aBR) fldsOf 9 "_law_lists" (sp__law_lists 8) := Cal.of (fnD F19 sc__law_lists (fun ds Q E h => len__law_lists h) (fun Xd => t__law_lists _ Xd) (fun Fr Xd cdv A outer s H E hr tk => d__law_lists T C8__law_lists Fr Xd cdv A outer s H E hr tk) fun ds Qd Xd h => rd__law_lists h) (PySem.W.mg_of X G a19) k19 b19
  have C__law_lists := C9__law_lists
  have C0__law_tuples : Cal l.prog w K mg base (clsOf aBR) fldsOf 0 "_law_tuples" never := Cal.never (PySem.W.mg_of X G a20) k20
  have C1__law_tuples : Cal l.prog w K mg base (clsOf aBR) fldsOf 1 "_law_tuples" (sp__law_tuples 0) := Cal.of (fnD F20 sc__law_tuples (fun ds Q E h => len__law_tuples h) (fun Xd => t__law_tuples _ Xd) (fun Fr Xd cdv A outer s H E hr tk => d__law_tuples T C0__law_tuples Fr Xd cdv A outer s H E hr tk) fun ds Qd Xd h => rd__law_tuples0 h) (PySem.W.mg_of X G a20) k20 b20
  have C2__law_tuples : Cal l.prog w K mg base (clsOf aBR) fldsOf 2 "_law_tuples" (sp__law_tuples 1) := Cal.of (fnD F20 sc__law_tuples (fun ds Q E h => len__law_tuples h) (fun Xd => t__law_tuples _ Xd) (fun Fr Xd cdv A outer s H E hr tk => d__law_tuples T C1__law_tuples Fr Xd cdv A outer s H E hr tk) fun ds Qd Xd h => rd__law_tuples h) (PySem.W.mg_of X G a20) k20 b20
  have C3__law_tuples : Cal l.prog w K mg base (clsOf aBR) fldsOf 3 "_law_tuples" (sp__law_tuples 2) := Cal.of (fnD F20 sc__law_tuples (fun ds Q E h => len__law_tuples h) (fun Xd => t__law_tuples _ Xd) (fun Fr Xd cdv A outer s H E hr tk => d__law_tuples T C2__law_tuples Fr Xd cdv A outer s H E hr tk) fun ds Qd Xd h => rd__law_tuples h) (PySem.W.mg_of X G a20) k20 b20
  have C4__law_tuples : Cal l.prog w K mg base (clsOf aBR) fldsOf 4 "_law_tuples" (sp__law_tuples 3) := Cal.of (fnD F20 sc__law_tuples (fun ds Q E h => len__law_tuples h) (fun Xd => t__law_tuples _ Xd) (fun Fr Xd cdv A outer s H E hr tk => d__law_tuples T C3__law_tuples Fr Xd cdv A outer s H E hr tk) fun ds Qd Xd h => rd__law_tuples h) (PySem.W.mg_of X G a20) k20 b20
  have C5__law_tuples : Cal l.prog w K mg base (clsOf aBR) fldsOf 5 "_law_tuples" (sp__law_tuples 4) := Cal.of (fnD F20 sc__law_tuples (fun ds Q E h => len__law_tuples h) (fun Xd => t__law_tuples _ Xd) (fun Fr Xd cdv A outer s H E hr tk => d__law_tuples T C4__law_tuples Fr Xd cdv A outer s H E hr tk) fun ds Qd Xd h => rd__law_tuples h) (PySem.W.mg_of X G a20) k20 b20
  have C6__law_tuples : Cal l.prog w K mg base (clsOf aBR) fldsOf 6 "_law_tuples" (sp__law_tuples 5) := Cal.of (fnD F20 sc__law_tuples (fun ds Q E h => len__law_tuples h) (fun Xd => t__law_tuples _ Xd) (fun Fr Xd cdv A outer s H E hr tk => d__law_tuples T C5__law_tuples Fr Xd cdv A outer s H E hr tk) fun ds Qd Xd h => rd__law_tuples h) (PySem.W.mg_of X G a20) k20 b20
  have C7__law_tuples : Cal l.prog w K mg base (clsOf aBR) fldsOf 7 "_law_tuples" (sp__law_tuples 6) := Cal.of (fnD F20 sc__law_tuples (fun ds Q E h => len__law_tuples h) (fun Xd => t__law_tuples _ Xd) (fun Fr Xd cdv A outer s H E hr tk => d__law_tuples T C6__law_tuples Fr Xd cdv A outer s H E hr tk) fun ds Qd Xd h => rd__law_tuples h) (PySem.W.mg_of X G a20) k20 b20
  have C8__law_tuples : Cal l.prog w K mg base (clsOf aBR) fldsOf 8 "_law_tuples" (sp__law_tuples 7) := Cal.of (fnD F20 sc__law_tuples (fun ds Q E h => len__law_tuples h) (fun Xd => t__law_tuples _ Xd) (fun Fr Xd cdv A outer s H E hr tk => d__law_tuples T C7__law_tuples Fr Xd cdv A outer s H E hr tk) fun ds Qd Xd h => rd__law_tuples h) (PySem.W.mg_of X G a20) k20 b20
  have C9__law_tuples : Cal l.prog w K mg base (clsOf aBR) fldsOf 9 "_law_tuples" (sp__law_tuples 8) := Cal.of (fnD F20 sc__law_tuples (fun ds Q E h => len__law_tuples h) (fun Xd => t__law_tuples _ Xd) (fun Fr Xd cdv A outer s H E hr tk => d__law_tuples T C8__law_tuples Fr Xd cdv A outer s H E hr tk) fun ds Qd Xd h => rd__law_tuples h) (PySem.W.mg_of X G a20) k20 b20
  have C__law_tuples := C9__law_tuples
  have C__law_spelled : Cal l.prog w K mg base (clsOf aBR) fldsOf 2 "_law_spelled" sp__law_spelled := Cal.of (fnD F21 sc__law_spelled (fun ds Q E h => len__law_spelled h) (fun Xd => t__law_spelled Xd) (fun Fr Xd cdv A outer s H E hr tk => d__law_spelled T (C__law_pick.mono (by decide : 1 ≤ 1))  Fr Xd cdv A outer s H E hr tk) fun ds Qd Xd h => rd__law_spelled h) (PySem.W.mg_of X G a21) k21 b21
  have C__law_reserved : Cal l.prog w K mg base (clsOf aBR) fldsOf 1 "_law_reserved" sp__law_reserved := Cal.of (fnD F22 sc__law_reserved (fun ds Q E h => len__law_reserved h) (fun Xd => t__law_reserved Xd) (fun Fr Xd cdv A outer s H E hr tk => d__law_reserved T   Fr Xd cdv A outer s H E hr tk) fun ds Qd Xd h => rd__law_reserved h) (PySem.W.mg_of X G a22) k22 b22
  have C__law_common : Cal l.prog w K mg base (clsOf aBR) fldsOf 1 "_law_common" sp__law_common := Cal.of (fnD F23 sc__law_common (fun ds Q E h => len__law_common h) (fun Xd => t__law_common Xd) (fun Fr Xd cdv A outer s H E hr tk => d__law_common T   Fr Xd cdv A outer s H E hr tk) fun ds Qd Xd h => rd__law_common h) (PySem.W.mg_of X G a23) k23 b23
  have C__law_ratio : Cal l.prog w K mg base (clsOf aBR) fldsOf 2 "_law_ratio" sp__law_ratio := Cal.of (fnD F24 sc__law_ratio (fun ds Q E h => len__law_ratio h) (fun Xd => t__law_ratio Xd) (fun Fr Xd cdv A outer s H E hr tk => d__law_ratio T (C__law_common.mono (by decide : 1 ≤ 1))  Fr Xd cdv A outer s H E hr tk) fun ds Qd Xd h => rd__law_ratio h) (PySem.W.mg_of X G a24) k24 b24
  have C__law_plus : Cal l.prog w K mg base (clsOf aBR) fldsOf 3 "_law_plus" sp__law_plus := Cal.of (fnD F25 sc__law_plus (fun ds Q E h => len__law_plus h) (fun Xd => t__law_plus Xd) (fun Fr Xd cdv A outer s H E hr tk => d__law_plus T (C__law_ratio.mono (by decide : 2 ≤ 2))  Fr Xd cdv A outer s H E hr tk) fun ds Qd Xd h => rd__law_plus h) (PySem.W.mg_of X G a25) k25 b25
  have C__law_number_of : Cal l.prog w K mg base (clsOf aBR) fldsOf 2 "_law_number_of" sp__law_number_of := Cal.of (fnD F26 sc__law_number_of (fun ds Q E h => len__law_number_of h) (fun Xd => t__law_number_of Xd) (fun Fr Xd cdv A outer s H E hr tk => d__law_number_of T (C__law_pick.mono (by decide : 1 ≤ 1))  Fr Xd cdv A outer s H E hr tk) fun ds Qd Xd h => rd__law_number_of h) (PySem.W.mg_of X G a26) k26 b26
  have C__law_drawn : Cal l.prog w K mg base (clsOf aBR) fldsOf 3 "_law_drawn" sp__law_drawn := Cal.of (fnD F27 sc__law_drawn (fun ds Q E h => len__law_drawn h) (fun Xd => t__law_drawn Xd) (fun Fr Xd cdv A outer s H E hr tk => d__law_drawn T (C__law_number_of.mono (by decide : 2 ≤ 2)) (C__law_pick.mono (by decide : 1 ≤ 2)) (C__law_ratio.mono (by decide : 2 ≤ 2))  Fr Xd cdv A outer s H E hr tk) fun ds Qd Xd h => rd__law_drawn h) (PySem.W.mg_of X G a27) k27 b27
  have C__law_made : Cal l.prog w K mg base (clsOf aBR) fldsOf 5 "_law_made" sp__law_made := Cal.of (fnD F28 sc__law_made (fun ds Q E h => len__law_made h) (fun Xd => t__law_made Xd) (fun Fr Xd cdv A outer s H E hr tk => d__law_made T (C_ratio.mono (by decide : 4 ≤ 4))  Fr Xd cdv A outer s H E hr tk) fun ds Qd Xd h => rd__law_made h) (PySem.W.mg_of X G a28) k28 b28
  have C__law_made_right : Cal l.prog w K mg base (clsOf aBR) fldsOf 11 "_law_made_right" sp__law_made_right := Cal.of (fnD F29 sc__law_made_right (fun ds Q E h => len__law_made_right h) (fun Xd => t__law_made_right Xd) (fun Fr Xd cdv A outer s H E hr tk => d__law_made_right T (C__law_number_of.mono (by decide : 2 ≤ 10)) (C__law_one_in.mono (by decide : 2 ≤ 10)) (C__law_ratio.mono (by decide : 2 ≤ 10)) (C__law_made.mono (by decide : 5 ≤ 10)) (C__law_plain.mono (by decide : 10 ≤ 10)) (C_ratio_1.mono (by decide : 4 ≤ 10))  Fr Xd cdv A outer s H E hr tk) fun ds Qd Xd h => rd__law_made_right h) (PySem.W.mg_of X G a29) k29 b29
  have C__law_sum : Cal l.prog w K mg base (clsOf aBR) fldsOf 6 "_law_sum" sp__law_sum := Cal.of (fnD F30 sc__law_sum (fun ds Q E h => len__law_sum h) (fun Xd => t__law_sum Xd) (fun Fr Xd cdv A outer s H E hr tk => d__law_sum T (C_plus.mono (by decide : 5 ≤ 5))  Fr Xd cdv A outer s H E hr tk) fun ds Qd Xd h => rd__law_sum h) (PySem.W.mg_of X G a30) k30 b30
  have C__law_sums_right : Cal l.prog w K mg base (clsOf aBR) fldsOf 11 "_law_sums_right" sp__law_sums_right := Cal.of (fnD F31 sc__law_sums_right (fun ds Q E h => len__law_sums_right h) (fun Xd => t__law_sums_right Xd) (fun Fr Xd cdv A outer s H E hr tk => d__law_sums_right T (C__law_plus.mono (by decide : 3 ≤ 10)) (C__law_one_in.mono (by decide : 2 ≤ 10)) (C__law_tuples.mono (by decide : 9 ≤ 10)) (C__law_sum.mono (by decide : 6 ≤ 10)) (C__law_shuffled.mono (by decide : 2 ≤ 10)) (C__law_plain.mono (by decide : 10 ≤ 10))  Fr Xd cdv A outer s H E hr tk) fun ds Qd Xd h => rd__law_sums_right h) (PySem.W.mg_of X G a31) k31 b31
  have C__law_text : Cal l.prog w K mg base (clsOf aBR) fldsOf 1 "_law_text" sp__law_text := Cal.of (fnD F32 sc__law_text (fun ds Q E h => len__law_text h) (fun Xd => t__law_text Xd) (fun Fr Xd cdv A outer s H E hr tk => d__law_text T   Fr Xd cdv A outer s H E hr tk) fun ds Qd Xd h => rd__law_text h) (PySem.W.mg_of X G a32) k32 b32
  have C__law_truth : Cal l.prog w K mg base (clsOf aBR) fldsOf 1 "_law_truth" sp__law_truth := Cal.of (fnD F33 sc__law_truth (fun ds Q E h => len__law_truth h) (fun Xd => t__law_truth Xd) (fun Fr Xd cdv A outer s H E hr tk => d__law_truth T   Fr Xd cdv A outer s H E hr tk) fun ds Qd Xd h => rd__law_truth h) (PySem.W.mg_of X G a33) k33 b33
  have C__law_two_right : Cal l.prog w K mg base (clsOf aBR) fldsOf 11 "_law_two_right" sp__law_two_right := Cal.of (fnD F34 sc__law_two_right (fun ds Q E h => len__law_two_right h) (fun Xd => t__law_two_right Xd) (fun Fr Xd cdv A outer s H E hr tk => d__law_two_right T (C__law_plus.mono (by decide : 3 ≤ 10)) (C__law_ratio.mono (by decide : 2 ≤ 10)) (C_minus.mono (by decide : 5 ≤ 10)) (C_times.mono (by decide : 5 ≤ 10)) (C__law_plain.mono (by decide : 10 ≤ 10)) (C_less.mono (by decide : 1 ≤ 10)) (C__law_truth.mono (by decide : 1 ≤ 10)) (C_write_ratio.mono (by decide : 1 ≤ 10)) (C__law_text.mono (by decide : 1 ≤ 10))  Fr Xd cdv A outer s H E hr tk) fun ds Qd Xd h => rd__law_two_right h) (PySem.W.mg_of X G a34) k34 b34
  have C__law_algebra : Cal l.prog w K mg base (clsOf aBR) fldsOf 6 "_law_algebra" sp__law_algebra := Cal.of (fnD F35 sc__law_algebra (fun ds Q E h => len__law_algebra h) (fun Xd => t__law_algebra Xd) (fun Fr Xd cdv A outer s H E hr tk => d__law_algebra T (C_plus.mono (by decide : 5 ≤ 5)) (C_minus.mono (by decide : 5 ≤ 5)) (C_times.mono (by decide : 5 ≤ 5)) (C_less.mono (by decide : 1 ≤ 5)) (C__law_truth.mono (by decide : 1 ≤ 5))  Fr Xd cdv A outer s H E hr tk) fun ds Qd Xd h => rd__law_algebra h) (PySem.W.mg_of X G a35) k35 b35
  have C__law_odd_ratio : Cal l.prog w K mg base (clsOf aBR) fldsOf 3 "_law_odd_ratio" sp__law_odd_ratio := Cal.of (fnD F36 sc__law_odd_ratio (fun ds Q E h => len__law_odd_ratio h) (fun Xd => t__law_odd_ratio Xd) (fun Fr Xd cdv A outer s H E hr tk => d__law_odd_ratio T (C__law_pick.mono (by decide : 1 ≤ 2)) (C__law_choice.mono (by decide : 2 ≤ 2))  Fr Xd cdv A outer s H E hr tk) fun ds Qd Xd h => rd__law_odd_ratio h) (PySem.W.mg_of X G a36) k36 b36
  have C__law_ratio_fits : Cal l.prog w K mg base (clsOf aBR) fldsOf 2 "_law_ratio_fits" sp__law_ratio_fits := Cal.of (fnD F37 sc__law_ratio_fits (fun ds Q E h => len__law_ratio_fits h) (fun Xd => t__law_ratio_fits Xd) (fun Fr Xd cdv A outer s H E hr tk => d__law_ratio_fits T (C__law_integer.mono (by decide : 1 ≤ 1)) (C__law_common.mono (by decide : 1 ≤ 1))  Fr Xd cdv A outer s H E hr tk) fun ds Qd Xd h => rd__law_ratio_fits h) (PySem.W.mg_of X G a37) k37 b37
  have C__law_word_of : Cal l.prog w K mg base (clsOf aBR) fldsOf 3 "_law_word_of" sp__law_word_of := Cal.of (fnD F38 sc__law_word_of (fun ds Q E h => len__law_word_of h) (fun Xd => t__law_word_of Xd) (fun Fr Xd cdv A outer s H E hr tk => d__law_word_of T (C__law_pick.mono (by decide : 1 ≤ 2)) (C__law_choice.mono (by decide : 2 ≤ 2)) (C__law_spelled.mono (by decide : 2 ≤ 2)) (C__law_reserved.mono (by decide : 1 ≤ 2))  Fr Xd cdv A outer s H E hr tk) fun ds Qd Xd h => rd__law_word_of h) (PySem.W.mg_of X G a38) k38 b38
  have C__law_name_fits : Cal l.prog w K mg base (clsOf aBR) fldsOf 2 "_law_name_fits" sp__law_name_fits := Cal.of (fnD F39 sc__law_name_fits (fun ds Q E h => len__law_name_fits h) (fun Xd => t__law_name_fits Xd) (fun Fr Xd cdv A outer s H E hr tk => d__law_name_fits T (C__law_reserved.mono (by decide : 1 ≤ 1))  Fr Xd cdv A outer s H E hr tk) fun ds Qd Xd h => rd__law_name_fits h) (PySem.W.mg_of X G a39) k39 b39
  have C__law_names_right : Cal l.prog w K mg base (clsOf aBR) fldsOf 12 "_law_names_right" sp__law_names_right := Cal.of (fnD F40 sc__law_names_right (fun ds Q E h => len__law_names_right h) (fun Xd => t__law_names_right Xd) (fun Fr Xd cdv A outer s H E hr tk => d__law_names_right T (C__law_word_of.mono (by decide : 3 ≤ 11)) (C_is_name.mono (by decide : 1 ≤ 11)) (C__law_name_fits.mono (by decide : 2 ≤ 11)) (C__law_truth.mono (by decide : 1 ≤ 11)) (C__law_odd_ratio.mono (by decide : 3 ≤ 11)) (C_is_ratio.mono (by decide : 11 ≤ 11)) (C__law_ratio_fits.mono (by decide : 2 ≤ 11)) (C__law_lists.mono (by decide : 9 ≤ 11)) (C__law_reserved.mono (by decide : 1 ≤ 11)) (C__law_plain.mono (by decide : 10 ≤ 11))  Fr Xd cdv A outer s H E hr tk) fun ds Qd Xd h => rd__law_names_right h) (PySem.W.mg_of X G a40) k40 b40
  exact fn_law (i := 1) (kb := 1) F41 sc_law rfl rfl rfl (by decide) (by first | exact .inl rfl | exact .inr rfl) (by first | exact .inl rfl | exact .inr (.inl rfl) | exact .inr (.inr rfl)) rfl B__law_bag_of (by decide) (PySem.W.mg_of X G a12) k12 b12
    (w1 := t_law fun _ _ => False) (fun Fr cdv A outer s H E hr => d_law T (C__law_choice.mono (by decide : 2 ≤ 12)) (C__law_pick.mono (by decide : 1 ≤ 12)) (C__law_drawn.mono (by decide : 3 ≤ 12)) (C__law_sums_right.mono (by decide : 11 ≤ 12)) (C__law_two_right.mono (by decide : 11 ≤ 12)) (C__law_algebra.mono (by decide : 6 ≤ 12)) (C__law_made_right.mono (by decide : 11 ≤ 12)) (C__law_names_right.mono (by decide : 12 ≤ 12)) Fr (fun _ _ => False) cdv A outer s H E hr takesNo) (rd_lawE)
end K01

set_option Elab.async false
set_option linter.all false
set_option maxRecDepth 100000
set_option maxHeartbeats 4000000
namespace DL
open PySem PySem.Spec L2
theorem big_of {z : Int} (h : Builtin.Int.intBits z ≤ 1048576) : big z := by
  unfold big
  unfold Builtin.Int.intBits at h
  by_cases h0 : z = 0
  · subst h0; exact Nat.two_pow_pos _
  · rw [if_neg (by simpa using h0)] at h
    exact (Nat.log2_lt (by omega)).mp (by omega)
end DL
open PySem PySem.Spec PyProof.Rows L2 DL in
theorem K01.walk {l : PySem.W.OpenLaw} {q : Program} {loose : List Str} {XP : (Str → Option Value) → Heap → Prop} {YP : World → Heap → Prop} {d : DefRec} {K : Params → PySem.W.Frag} (hn : l.most = some 63) (hdf : d.params.defaults = [])
    (hY : ∀ (w : World) (h : Heap), YP w h → (K w.params).In h)
    (F : ∀ (w : World) (mg : Str → Option Value) (fa : Addr) (h : Heap), (K w.params).In h → h.Ns mainGlobals mg → mg d.name = some (.ref fa) →
      ∃ fd : FuncData, (∀ (s : Shared) (u : Value), BindsTo s fd ⟨[u], []⟩ [("script", u)]) ∧ ∀ base : Heap, (K w.params).In base → base.Ns mainGlobals mg → FnOk l.prog w (K w.params) mg base (L2.CX l.prog w) 13 fa fd ["script"] (spLaw (K w.params))) :
    PySem.W.WalkO q loose XP YP l.row.toRowW d [] (fun f vs => PySem.call f vs) :=
  L2.walk_ofB (n := 63) (k := 13) (x := "script") (CX := fun w => L2.CX l.prog w) (sp := fun w => spLaw (K w.params)) hn (by decide) hdf ⟨rfl, by decide, by decide⟩ hY F (fun w H a ns hl hb _ hS => ⟨a, ns, rfl, hS, by omega, fun z hz => big_of (hb z hz), fun _ => rfl⟩) fun w H s e s' h => by
    obtain ⟨_, _, _, _, _, _, _, _, _, _, _, _, z⟩ := h
    exact z
open PySem PySem.W PyProof.Rows
set_option maxRecDepth 100000 in
set_option maxHeartbeats 0 in
theorem PySem.Challenge.cw_strawbench_k01_ratios_and_names_holds : PySem.Challenge.rw_strawbench_k01_ratios_and_names.Holds := by
  w_on; o_law; k_head; (case hw => w_witness2)
  k_fill
  refine K01.walk (l := PySem.Challenge.rw_strawbench_k01_ratios_and_names) rfl rfl (fun w h Y => PySem.W.kIn_of Y) ?F
  case F =>
    intro w mg fa h KX G hmg
    refine' K01.all_mk KX G hmg ?a0 ?l0 ?c0 ?k0 ?a1 ?l1 ?c1 ?k1 ?a2 ?l2 ?c2 ?k2 ?a3 ?l3 ?c3 ?k3 ?a4 ?l4 ?c4 ?k4 ?ld4 ?vd4 ?a5 ?l5 ?c5 ?k5 ?a6 ?l6 ?c6 ?k6 ?a7 ?l7 ?c7 ?k7 ?a8 ?l8 ?c8 ?k8 ?a9 ?l9 ?c9 ?k9 ?a10 ?l10 ?c10 ?k10 ?a11 ?l11 ?c11 ?k11 ?a12 ?l12 ?c12 ?k12 ?a13 ?l13 ?c13 ?k13 ?a14 ?l14 ?c14 ?k14 ?a15 ?l15 ?c15 ?k15 ?a16 ?l16 ?c16 ?k16 ?a17 ?l17 ?c17 ?k17 ?a18 ?l18 ?c18 ?k18 ?a19 ?l19 ?c19 ?k19 ?a20 ?l20 ?c20 ?k20 ?a21 ?l21 ?c21 ?k21 ?a22 ?l22 ?c22 ?k22 ?a23 ?l23 ?c23 ?k23 ?a24 ?l24 ?c24 ?k24 ?a25 ?l25 ?c25 ?k25 ?a26 ?l26 ?c26 ?k26 ?a27 ?l27 ?c27 ?k27 ?a28 ?l28 ?c28 ?k28 ?a29 ?l29 ?c29 ?k29 ?a30 ?l30 ?c30 ?k30 ?a31 ?l31 ?c31 ?k31 ?a32 ?l32 ?c32 ?k32 ?a33 ?l33 ?c33 ?k33 ?a34 ?l34 ?c34 ?k34 ?a35 ?l35 ?c35 ?k35 ?a36 ?l36 ?c36 ?k36 ?a37 ?l37 ?c37 ?k37 ?a38 ?l38 ?c38 ?k38 ?a39 ?l39 ?c39 ?k39 ?a40 ?l40 ?c40 ?k40 ?a41 ?l41 ?c41 ?k41 ?z_isinstance ?z_str ?z_len ?z_all ?z_int ?z_bool ?z_tuple ?z_list ?z_abs ?z_range ?z_ValueError ?g_BadRatio ?g_StrawError ?g_BadFace ?gW ?lW ?vW ?gL ?x1 ?x2 ?x3 ?x4 ?nTop ?nBot ?y1 ?y2 ?y3 ?y4 ?xL ?sa ?tyC ?kC ?ini ?tyf ?lB ?cB ?lcd ?v2 ?flE ?lcc ?al1 ?ah1 ?ah2 ?ah3 ?al3 ?mr ?ve ?tp ?sup ?opq ?s1 ?s2 ?s3 ?s4 ?s5 ?s6 ?s7 ?s8 ?s9
    (case a0 => k_is)
    (case l0 => k_is)
    (case c0 => k_is)
    (case k0 => k_is)
    (case a1 => k_is)
    (case l1 => k_is)
    (case c1 => k_is)
    (case k1 => k_is)
    (case a2 => k_is)
    (case l2 => k_is)
    (case c2 => k_is)
    (case k2 => k_is)
    (case a3 => k_is)
    (case l3 => k_is)
    (case c3 => k_is)
    (case k3 => k_is)
    (case a4 => k_is)
    (case l4 => k_is)
    (case c4 => k_is)
    (case k4 => k_is)
    (case ld4 => k_is)
    (case vd4 => exact .cons ⟨_, rfl⟩ .nil)
    (case a5 => k_is)
    (case l5 => k_is)
    (case c5 => k_is)
    (case k5 => k_is)
    (case a6 => k_is)
    (case l6 => k_is)
    (case c6 => k_is)
    (case k6 => k_is)
    (case a7 => k_is)
    (case l7 => k_is)
    (case c7 => k_is)
    (case k7 => k_is)
    (case a8 => k_is)
    (case l8 => k_is)
    (case c8 => k_is)
    (case k8 => k_is)
    (case a9 => k_is)
    (case l9 => k_is)
    (case c9 => k_is)
    (case k9 => k_is)
    (case a10 => k_is)
    (case l10 => k_is)
    (case c10 => k_is)
    (case k10 => k_is)
    (case a11 => k_is)
    (case l11 => k_is)
    (case c11 => k_is)
    (case k11 => k_is)
    (case a12 => k_is)
    (case l12 => k_is)
    (case c12 => k_is)
    (case k12 => k_is)
    (case a13 => k_is)
    (case l13 => k_is)
    (case c13 => k_is)
    (case k13 => k_is)
    (case a14 => k_is)
    (case l14 => k_is)
    (case c14 => k_is)
    (case k14 => k_is)
    (case a15 => k_is)
    (case l15 => k_is)
    (case c15 => k_is)
    (case k15 => k_is)
    (case a16 => k_is)
    (case l16 => k_is)
    (case c16 => k_is)
    (case k16 => k_is)
    (case a17 => k_is)
    (case l17 => k_is)
    (case c17 => k_is)
    (case k17 => k_is)
    (case a18 => k_is)
    (case l18 => k_is)
    (case c18 => k_is)
    (case k18 => k_is)
    (case a19 => k_is)
    (case l19 => k_is)
    (case c19 => k_is)
    (case k19 => k_is)
    (case a20 => k_is)
    (case l20 => k_is)
    (case c20 => k_is)
    (case k20 => k_is)
    (case a21 => k_is)
    (case l21 => k_is)
    (case c21 => k_is)
    (case k21 => k_is)
    (case a22 => k_is)
    (case l22 => k_is)
    (case c22 => k_is)
    (case k22 => k_is)
    (case a23 => k_is)
    (case l23 => k_is)
    (case c23 => k_is)
    (case k23 => k_is)
    (case a24 => k_is)
    (case l24 => k_is)
    (case c24 => k_is)
    (case k24 => k_is)
    (case a25 => k_is)
    (case l25 => k_is)
    (case c25 => k_is)
    (case k25 => k_is)
    (case a26 => k_is)
    (case l26 => k_is)
    (case c26 => k_is)
    (case k26 => k_is)
    (case a27 => k_is)
    (case l27 => k_is)
    (case c27 => k_is)
    (case k27 => k_is)
    (case a28 => k_is)
    (case l28 => k_is)
    (case c28 => k_is)
    (case k28 => k_is)
    (case a29 => k_is)
    (case l29 => k_is)
    (case c29 => k_is)
    (case k29 => k_is)
    (case a30 => k_is)
    (case l30 => k_is)
    (case c30 => k_is)
    (case k30 => k_is)
    (case a31 => k_is)
    (case l31 => k_is)
    (case c31 => k_is)
    (case k31 => k_is)
    (case a32 => k_is)
    (case l32 => k_is)
    (case c32 => k_is)
    (case k32 => k_is)
    (case a33 => k_is)
    (case l33 => k_is)
    (case c33 => k_is)
    (case k33 => k_is)
    (case a34 => k_is)
    (case l34 => k_is)
    (case c34 => k_is)
    (case k34 => k_is)
    (case a35 => k_is)
    (case l35 => k_is)
    (case c35 => k_is)
    (case k35 => k_is)
    (case a36 => k_is)
    (case l36 => k_is)
    (case c36 => k_is)
    (case k36 => k_is)
    (case a37 => k_is)
    (case l37 => k_is)
    (case c37 => k_is)
    (case k37 => k_is)
    (case a38 => k_is)
    (case l38 => k_is)
    (case c38 => k_is)
    (case k38 => k_is)
    (case a39 => k_is)
    (case l39 => k_is)
    (case c39 => k_is)
    (case k39 => k_is)
    (case a40 => k_is)
    (case l40 => k_is)
    (case c40 => k_is)
    (case k40 => k_is)
    (case a41 => k_is)
    (case l41 => k_is)
    (case c41 => k_is)
    (case k41 => k_is)
    (case z_isinstance => k_is)
    (case z_str => k_is)
    (case z_len => k_is)
    (case z_all => k_is)
    (case z_int => k_is)
    (case z_bool => k_is)
    (case z_tuple => k_is)
    (case z_list => k_is)
    (case z_abs => k_is)
    (case z_range => k_is)
    (case z_ValueError => k_is)
    (case g_BadRatio => k_is)
    (case g_StrawError => k_is)
    (case g_BadFace => k_is)
    (case gW => k_is)
    (case lW => k_is)
    (case vW => first | rfl | decide +kernel)
    (case gL => k_is)
    (case x1 => k_is)
    (case x2 => k_is)
    (case x3 => k_is)
    (case x4 => k_is)
    (case nTop => k_is)
    (case nBot => k_is)
    (case y1 => k_is)
    (case y2 => k_is)
    (case y3 => k_is)
    (case y4 => k_is)
    (case xL => k_is)
    (case sa => k_is)
    (case tyC => k_is)
    (case kC => k_is)
    (case ini => k_is)
    (case tyf => k_is)
    (case lB => k_is)
    (case cB => k_is)
    (case lcd => k_is)
    (case v2 => rfl)
    (case flE => decide +kernel)
    (case lcc => k_is)
    (case al1 => k_is)
    (case ah1 => k_is)
    (case ah2 => k_is)
    (case ah3 => first | rfl | decide +kernel | decide | simp)
    (case al3 => first | rfl | decide +kernel | decide | simp)
    (case mr => k_is)
    (case ve => k_is)
    (case tp => decide +kernel)
    (case sup => k_is)
    (case opq => k_is)
    (case s1 => k_is)
    (case s2 => k_is)
    (case s3 => k_is)
    (case s4 => k_is)
    (case s5 => k_is)
    (case s6 => k_is)
    (case s7 => k_is)
    (case s8 => k_is)
    (case s9 => first | rfl | decide | k_is)
