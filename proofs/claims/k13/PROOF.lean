import PyProof.Rows.All
import Wide.All
import OpenK.AllK
import Wide.FinOn
import HandS.ForMost
import HandS.Lambda
import HandS.Wide
import HandS.WideBits
import HandS.TupAny
import HandS.TupMul
import HandS.IsInst
import HandS.Zip
import HandS.Conv
import HandS.EndBits
import HandS.Style
import HandS.RaiseMore
import PyProof.ReprRoads
import HandS.SetFor
import HandS.WordsExc
import HandS.SortInts
import PyProof.ReprLen
import PySem.Challenge.RW_chancepairs_k13_whole_lots_mixed_moved_g
/-! the code objects of the defs that make a lambda, their tables, the lambdas' names; the defs that are values (this row's) -/
namespace R
open PySem
def TBC : List (Addr × Addr × Str) := [(488, 486, "_law_one_right.<locals>.<lambda>")]
def TB : List (Addr × Str) := TBC.map fun x => (x.2.1, x.2.2)
def FNS : List (Addr × Str) := []
end R

set_option Elab.async false
set_option linter.all false
set_option maxRecDepth 100000
/-! R: a plain-data reading over the hand layer. D: data; Tree: what a run gives, over all draws; a def is a plain function from data to trees. -/
namespace R
open PySem PySem.Spec PyProof.Rows L2

/-! ### runs -/
inductive Tree (α : Type) where
  | leaf (a : α)
  | fail
  | draw (n : Nat) (k : Nat → Tree α)
namespace Tree
variable {α β : Type}
def bind : Tree α → (α → Tree β) → Tree β
  | .leaf a, f => f a
  | .fail, _ => .fail
  | .draw n k, f => .draw n fun i => (k i).bind f
def all (P : α → Prop) : Tree α → Prop
  | .leaf a => P a
  | .fail => False
  | .draw n k => ∀ i, i < n → (k i).all P
theorem all_mono {P P' : α → Prop} (h : ∀ a, P a → P' a) : ∀ {t : Tree α}, t.all P → t.all P'
  | .leaf a, q => h a q
  | .fail, q => q
  | .draw n k, q => fun i hi => all_mono h (q i hi)
theorem all_bind {P : β → Prop} {f : α → Tree β} : ∀ {t : Tree α}, (t.bind f).all P ↔ t.all fun a => (f a).all P
  | .leaf a => Iff.rfl
  | .fail => Iff.rfl
  | .draw n k => ⟨fun q i hi => all_bind.mp (q i hi), fun q i hi => all_bind.mpr (q i hi)⟩
theorem all_and {P P' : α → Prop} : ∀ {t : Tree α}, t.all P → t.all P' → t.all fun a => P a ∧ P' a
  | .leaf a, p, q => ⟨p, q⟩
  | .fail, p, _ => p
  | .draw n k, p, q => fun i hi => all_and (p i hi) (q i hi)
def allB (P : α → Bool) : Tree α → Bool
  | .leaf a => P a
  | .fail => false
  | .draw n k => (List.range n).all fun i => (k i).allB P
theorem all_of_allB {P : α → Bool} : ∀ {t : Tree α}, t.allB P = true → t.all fun a => P a = true
  | .leaf _, q => q
  | .fail, q => by cases q
  | .draw n k, q => fun i hi => all_of_allB (List.all_eq_true.mp q i (List.mem_range.mpr hi))
def guard (c : Bool) (t : Tree α) : Tree α := if c = true then t else .fail
theorem all_guard {c : Bool} {t : Tree α} {P : α → Prop} (h : (guard c t).all P) : c = true ∧ t.all P := by
  unfold guard at h
  split at h
  · exact ⟨by assumption, h⟩
  · exact h.elim
end Tree

/-! ### data -/
inductive D where
  | non | bl (b : Bool) | int (i : Int) | str (x : Str) | tup (xs : List D) | lst (xs : List D) | pot | ty (n : String) | scr (ns : List Int) | dct | fn (n : Nat)

/-- what stands still (P), where the pots are (T) -/
structure Fz where
  P : Hp
  T : Addr → Prop
def PotOk (o : Option HO) : Prop := ∃ p q : Int, o = some (.lst [.int p, .int q]) ∧ 0 ≤ p ∧ 0 ≤ q ∧ q < 4294967296
structure Good (F : Fz) (H : Hp) : Prop where
  sub : Same F.P H
  pot : ∀ a, F.T a → F.P a = none ∧ PotOk (H a)
  nt : ∀ a ps, F.P a ≠ some (.tbl ps)
  tab : LamX.Tabs TB H
/-- tables stay where only lists change -/
theorem tabs_stay {T : List (Addr × Str)} {H H' : Hp} (t : LamX.Tabs T H) (k : ∀ a o, H a = some o → (∀ xs, o ≠ .lst xs) → H' a = some o) : LamX.Tabs T H' := fun p hp => by
  obtain ⟨ps, h1, h2, h3⟩ := t p hp
  refine ⟨ps, k _ _ h1 (fun xs z => by cases z), h2, fun pos cv hc => ?_⟩
  obtain ⟨c, e, h⟩ := h3 pos cv hc
  exact ⟨c, e, k _ _ h fun xs z => by unfold LamX.CodeO at z; cases z⟩
theorem tabs_new {T : List (Addr × Str)} {H : Hp} {p : Addr} {o : HO} (t : LamX.Tabs T H) (hp : H p = none) : LamX.Tabs T (upd H p o) := t.ext fun b u e => by rw [upd_ne (ne_of_none e hp)]; exact e
/-- nothing there that one's own object could be -/
def NT (H : Hp) (a : Addr) : Prop := ∀ o, H a = some o → ∃ ps, o = .tbl ps
theorem NT.none {H : Hp} {a : Addr} (h : H a = none) : NT H a := fun o z => by rw [h] at z; cases z
structure Ext (F : Fz) (H : Hp) (F' : Fz) (H' : Hp) : Prop where
  good : Good F' H'
  mono : Same F.P F'.P
  monoT : ∀ a, F.T a → F'.T a
  keep : ∀ a o, H a = some o → ¬ F.T a → (∀ ps, o ≠ .tbl ps) → H' a = some o
  fresh : ∀ a, (F'.P a ≠ none ∨ F'.T a) → F.P a ≠ none ∨ F.T a ∨ NT H a
theorem Ext.back {F F' : Fz} {H H' : Hp} (e : Ext F H F' H') {a : Addr} (h : NT H' a) (n : ¬ F.T a) : NT H a := fun o z => by
  by_cases q : ∃ ps, o = .tbl ps
  · exact q
  · exact absurd (h o (e.keep a o z n fun ps hq => q ⟨ps, hq⟩)) q
theorem Ext.refl {F : Fz} {H : Hp} (g : Good F H) : Ext F H F H := ⟨g, Same.refl _, fun _ h => h, fun _ _ h _ _ => h, fun _ h => h.elim .inl fun z => .inr (.inl z)⟩
theorem Ext.trans {F F1 F2 : Fz} {H H1 H2 : Hp} (a : Ext F H F1 H1) (b : Ext F1 H1 F2 H2) : Ext F H F2 H2 where
  good := b.good
  mono := a.mono.trans b.mono
  monoT := fun c h => b.monoT c (a.monoT c h)
  keep := fun c o h n nt => by
    have h1 := a.keep c o h n nt
    by_cases t : F1.T c
    · rcases a.fresh c (.inr t) with z | z | z
      · cases q : F.P c with
        | none => exact absurd q z
        | some u =>
          have e := a.mono c u q
          rw [(a.good.pot c t).1] at e; cases e
      · exact absurd z n
      · obtain ⟨ps, q⟩ := z o h; exact absurd q (nt ps)
    · exact b.keep c o h1 t nt
  fresh := fun c h => by
    rcases b.fresh c h with z | z | z
    · exact a.fresh c (.inl z)
    · exact a.fresh c (.inr z)
    · by_cases t : F.T c
      · exact .inr (.inl t)
      · exact .inr (.inr (a.back z t))

def sqT_same {K : PySem.W.Frag} {H H' : Hp} {a : Addr} {xs : List V} (e : Same H H') (h : SqT K H a xs) : SqT K H' a xs := by
  rcases h with (h | ⟨o, h⟩) | h
  · exact .inl (.inl (e _ _ h))
  · exact .inl (.inr ⟨o, e _ _ h⟩)
  · exact .inr h

/-- a tuple that stands still: tracked, or of the module -/
def TupAt (K : PySem.W.Frag) (P : Hp) (a : Addr) (xs : List V) : Prop := P a = some (.tup xs) ∨
  ∃ (o : Obj) (its : Array Value) (n : Nat), K.lookup a = some o ∧ o.cls = .type "tuple" ∧ o.data = .seq its n ∧ its.size ≤ sizeLine ∧ Vals xs its.toList
theorem TupAt.sq {K : PySem.W.Frag} {P : Hp} {a : Addr} {xs : List V} (h : TupAt K P a xs) : SqT K P a xs := h.elim (fun h => .inl (.inl h)) .inr
theorem TupAt.same {K : PySem.W.Frag} {P P' : Hp} {a : Addr} {xs : List V} (e : Same P P') (h : TupAt K P a xs) : TupAt K P' a xs := h.elim (fun h => .inl (e _ _ h)) .inr
theorem TupAt.of {K : PySem.W.Frag} {P : Hp} {a : Addr} {xs : List V} (h : P a = some (.tup xs)) : TupAt K P a xs := .inl h
mutual
inductive Rep (K : PySem.W.Frag) (F : Fz) : V → D → Prop where
  | non : Rep K F .non .non
  | bl (b : Bool) : Rep K F (.bl b) (.bl b)
  | int (i : Int) : Rep K F (.int i) (.int i)
  | str (x : Str) : Rep K F (.str x) (.str x)
  | tup {a : Addr} {xs : List V} {ds : List D} : TupAt K F.P a xs → Reps K F xs ds → Rep K F (.ref a) (.tup ds)
  | lst {a : Addr} {xs : List V} {ds : List D} : F.P a = some (.lst xs) → Reps K F xs ds → Rep K F (.ref a) (.lst ds)
  | pot {a : Addr} : F.T a → Rep K F (.ref a) .pot
  | ty (n : String) : Rep K F (.ty n) (.ty n)
  | scr {a : Addr} {ns : List Int} : SqL K F.P a (ns.map V.int) → Rep K F (.ref a) (.scr ns)
  | dct {a : Addr} : F.P a = some (.dK []) → Rep K F (.ref a) .dct
  | fn {a : Addr} {n : Nat} {x : Str} : FNS[n]? = some (a, x) → Rep K F (.ref a) (.fn n)
inductive Reps (K : PySem.W.Frag) (F : Fz) : List V → List D → Prop where
  | nil : Reps K F [] []
  | cons {v : V} {d : D} {vs : List V} {ds : List D} : Rep K F v d → Reps K F vs ds → Reps K F (v :: vs) (d :: ds)
end
structure Fz.Le (F F' : Fz) : Prop where
  p : Same F.P F'.P
  t : ∀ a, F.T a → F'.T a
theorem Ext.le {F F' : Fz} {H H' : Hp} (e : Ext F H F' H') : F.Le F' := ⟨e.mono, e.monoT⟩
mutual
theorem Rep.mono {K : PySem.W.Frag} {F F' : Fz} (l : F.Le F') : ∀ {v : V} {d : D}, Rep K F v d → Rep K F' v d
  | _, _, .non => .non
  | _, _, .bl b => .bl b
  | _, _, .int i => .int i
  | _, _, .str x => .str x
  | _, _, .tup h r => .tup (h.same l.p) (Reps.mono l r)
  | _, _, .lst h r => .lst (l.p _ _ h) (Reps.mono l r)
  | _, _, .pot h => .pot (l.t _ h)
  | _, _, .ty n => .ty n
  | _, _, .scr h => .scr (l.p.seq h)
  | _, _, .dct h => .dct (l.p _ _ h)
  | _, _, .fn h => .fn h
theorem Reps.mono {K : PySem.W.Frag} {F F' : Fz} (l : F.Le F') : ∀ {vs : List V} {ds : List D}, Reps K F vs ds → Reps K F' vs ds
  | _, _, .nil => .nil
  | _, _, .cons h r => .cons (Rep.mono l h) (Reps.mono l r)
end
section
variable {K : PySem.W.Frag} {F F' : Fz} {H H' : Hp}
theorem Reps.length : ∀ {vs : List V} {ds : List D}, Reps K F vs ds → vs.length = ds.length
  | _, _, .nil => rfl
  | _, _, .cons _ r => by simp [Reps.length r]
theorem Reps.get : ∀ {vs : List V} {ds : List D} {i : Nat} {v : V}, Reps K F vs ds → vs[i]? = some v → ∃ d, ds[i]? = some d ∧ Rep K F v d
  | _, _, _, _, .nil, e => by simp at e
  | _, _, 0, _, .cons h _, e => by simp at e; subst e; exact ⟨_, rfl, h⟩
  | _, _, i + 1, v, .cons _ r, e => by
    obtain ⟨d, h1, h2⟩ := Reps.get (i := i) (v := v) r (by simpa using e)
    exact ⟨d, by simpa using h1, h2⟩
theorem Reps.get' : ∀ {vs : List V} {ds : List D} {i : Nat} {d : D}, Reps K F vs ds → ds[i]? = some d → ∃ v, vs[i]? = some v ∧ Rep K F v d
  | _, _, _, _, .nil, e => by simp at e
  | _, _, 0, _, .cons h _, e => by simp at e; subst e; exact ⟨_, rfl, h⟩
  | _, _, i + 1, v, .cons _ r, e => by
    obtain ⟨d, h1, h2⟩ := Reps.get' (i := i) (d := v) r (by simpa using e)
    exact ⟨d, by simpa using h1, h2⟩
theorem Reps.append : ∀ {vs ws : List V} {ds es : List D}, Reps K F vs ds → Reps K F ws es → Reps K F (vs ++ ws) (ds ++ es)
  | _, _, _, _, .nil, s => s
  | _, _, _, _, .cons h r, s => .cons h (Reps.append r s)
theorem Reps.set {v : V} {d : D} (h : Rep K F v d) : ∀ {vs : List V} {ds : List D} (i : Nat), Reps K F vs ds → Reps K F (vs.set i v) (ds.set i d)
  | _, _, _, .nil => .nil
  | _, _, 0, .cons _ r => .cons h r
  | _, _, i + 1, .cons q r => .cons q (Reps.set h i r)
theorem Reps.take : ∀ {vs : List V} {ds : List D} (n : Nat), Reps K F vs ds → Reps K F (vs.take n) (ds.take n)
  | _, _, 0, _ => .nil
  | _, _, _ + 1, .nil => .nil
  | _, _, n + 1, .cons h r => .cons h (Reps.take n r)
theorem Reps.drop : ∀ {vs : List V} {ds : List D} (n : Nat), Reps K F vs ds → Reps K F (vs.drop n) (ds.drop n)
  | _, _, 0, r => r
  | _, _, _ + 1, .nil => .nil
  | _, _, n + 1, .cons _ r => Reps.drop n r
theorem Reps.eraseIdx : ∀ {vs : List V} {ds : List D} (n : Nat), Reps K F vs ds → Reps K F (vs.eraseIdx n) (ds.eraseIdx n)
  | _, _, _, .nil => .nil
  | _, _, 0, .cons _ r => r
  | _, _, n + 1, .cons h r => .cons h (Reps.eraseIdx n r)
theorem Reps.rep {vs : List V} {ds : List D} (r : Reps K F vs ds) : ∀ n : Nat, Reps K F ((List.replicate n vs).flatten) ((List.replicate n ds).flatten)
  | 0 => .nil
  | n + 1 => by
    rw [List.replicate_succ, List.replicate_succ, List.flatten_cons, List.flatten_cons]
    exact r.append (Reps.rep r n)
theorem Reps.cut {vs ws : List V} {ds : List D} : Reps K F (vs ++ ws) ds → ∃ es fs, ds = es ++ fs ∧ Reps K F vs es ∧ Reps K F ws fs := by
  induction vs generalizing ds with
  | nil => exact fun r => ⟨[], ds, rfl, .nil, r⟩
  | cons v vs ih =>
    intro r
    cases r with
    | cons h r =>
      obtain ⟨es, fs, rfl, r1, r2⟩ := ih r
      exact ⟨_ :: es, fs, rfl, .cons h r1, r2⟩

/-! ### new objects -/
theorem Good.new {p : Addr} {o : HO} (g : Good F H) (hp : H p = none) : Good F (upd H p o) := ⟨fun a u h => by rw [upd_ne (ne_of_none (g.sub a u h) hp)]; exact g.sub a u h, fun a t => by
  obtain ⟨h1, h2⟩ := g.pot a t
  refine ⟨h1, ?_⟩
  obtain ⟨x, y, e, z⟩ := h2
  rw [upd_ne (ne_of_none e hp)]
  exact ⟨x, y, e, z⟩, g.nt, tabs_new g.tab hp⟩
/-- a new object, not yet still -/
theorem Ext.new {p : Addr} {o : HO} (g : Good F H) (hp : H p = none) : Ext F H F (upd H p o) :=
  ⟨g.new hp, Same.refl _, fun _ h => h, fun a u h _ _ => by rw [upd_ne (ne_of_none h hp)]; exact h, fun _ h => h.elim .inl fun z => .inr (.inl z)⟩
/-- an own object is made still -/
def Fz.add (F : Fz) (p : Addr) (o : HO) : Fz := ⟨upd F.P p o, F.T⟩
theorem Good.add {p : Addr} {o : HO} (g : Good F H) (hp : H p = some o) (n : F.P p = none) (t : ¬ F.T p) (ht : ∀ ps, o ≠ .tbl ps) : Good (F.add p o) H := ⟨fun a u h => by
    by_cases e : a = p
    · subst e; rw [show (F.add a o).P a = some o from upd_same] at h; cases h; exact hp
    · rw [show (F.add p o).P a = F.P a from upd_ne e] at h; exact g.sub a u h,
  fun a ta => by
    have e : a ≠ p := fun e => t (e ▸ ta)
    exact ⟨by rw [show (F.add p o).P a = F.P a from upd_ne e]; exact (g.pot a ta).1, (g.pot a ta).2⟩, fun a ps h => by
    by_cases e : a = p
    · subst e; rw [show (F.add a o).P a = some o from upd_same] at h; cases h; exact ht ps rfl
    · rw [show (F.add p o).P a = F.P a from upd_ne e] at h; exact g.nt a ps h, g.tab⟩
theorem Fz.le_add {p : Addr} {o : HO} (n : F.P p = none) : F.Le (F.add p o) := ⟨fun a u h => by
  rw [show (F.add p o).P a = F.P a from upd_ne (ne_of_none h n)]; exact h, fun _ h => h⟩
theorem Good.free {p : Addr} (g : Good F H) (hp : H p = none) : F.P p = none ∧ ¬ F.T p := by
  constructor
  · cases q : F.P p with
    | none => rfl
    | some o => rw [g.sub p o q] at hp; cases hp
  · intro t
    obtain ⟨x, y, e, _⟩ := (g.pot p t).2
    rw [e] at hp; cases hp
theorem Ext.addNew {p : Addr} {o : HO} (g : Good F H) (hp : H p = none) (ht : ∀ ps, o ≠ .tbl ps := by intro _ z; cases z) : Ext F H (F.add p o) (upd H p o) := by
  obtain ⟨n, t⟩ := g.free hp
  refine ⟨(g.new hp).add upd_same n t ht, (Fz.le_add n).p, fun _ h => h, (Ext.new g hp).keep, fun a h => ?_⟩
  rcases h with h | h
  · by_cases e : a = p
    · subst e; exact .inr (.inr (.none hp))
    · rw [show (F.add p o).P a = F.P a from upd_ne e] at h; exact .inl h
  · exact .inr (.inl h)
theorem Ext.freeze {F0 : Fz} {H0 : Hp} {p : Addr} {o : HO} (e : Ext F0 H0 F H) (hp : H p = some o) (n : F.P p = none) (t : ¬ F.T p) (h0 : NT H0 p) (ht : ∀ ps, o ≠ .tbl ps := by intro _ z; cases z) : Ext F0 H0 (F.add p o) H := by
  refine ⟨e.good.add hp n t ht, e.mono.trans (Fz.le_add n).p, e.monoT, e.keep, fun a h => ?_⟩
  by_cases q : a = p
  · subst q; exact .inr (.inr h0)
  · rcases h with h | h
    · rw [show (F.add p o).P a = F.P a from upd_ne q] at h; exact e.fresh a (.inl h)
    · exact e.fresh a (.inr h)
/-- an own object is changed -/
theorem Ext.write {F0 : Fz} {H0 : Hp} {p : Addr} {o : HO} (e : Ext F0 H0 F H) (n : F.P p = none) (t : ¬ F.T p) (h0 : NT H0 p) (hl : ∃ xs, H p = some (.lst xs)) : Ext F0 H0 F (upd H p o) := by
  obtain ⟨xs, hl⟩ := hl
  refine ⟨⟨fun a u h => ?_, fun a ta => ?_, e.good.nt, tabs_stay e.good.tab fun a u h nl => ?_⟩, e.mono, e.monoT, fun a u h nt ntb => ?_, e.fresh⟩
  · rw [upd_ne (ne_of_none h n)]; exact e.good.sub a u h
  · rw [upd_ne (fun z : a = p => t (by rw [← z]; exact ta))]; exact e.good.pot a ta
  · rw [upd_ne (fun z : a = p => by rw [z, hl] at h; cases h; exact nl _ rfl)]; exact h
  · rw [upd_ne (fun z : a = p => by obtain ⟨ps, q⟩ := h0 u (z ▸ h); exact ntb ps q)]; exact e.keep a u h nt ntb

/-! ### a value that is looked at: still, or an own list as it stands -/
inductive Pk (K : PySem.W.Frag) (F : Fz) (H : Hp) : V → D → Prop where
  | rep {v : V} {d : D} : Rep K F v d → Pk K F H v d
  | own {a : Addr} {xs : List V} {ds : List D} : H a = some (.lst xs) → ¬ F.T a → F.P a = none → Reps K F xs ds → Pk K F H (.ref a) (.lst ds)
theorem Pk.ext {v : V} {d : D} (e : Ext F H F' H') : Pk K F H v d → Pk K F' H' v d
  | .rep r => .rep (r.mono e.le)
  | .own h t n r => .own (e.keep _ _ h t fun ps z => by cases z) (fun t' => by
      rcases e.fresh _ (.inr t') with z | z | z
      · exact z n
      · exact t z
      · obtain ⟨ps, q⟩ := z _ h; cases q) (by
      cases q : F'.P _ with
      | none => rfl
      | some o =>
        rcases e.fresh _ (.inl (by rw [q]; intro z; cases z)) with z | z | z
        · exact absurd n z
        · exact absurd z t
        · obtain ⟨ps, q⟩ := z _ h; cases q) (r.mono e.le)
theorem Pk.int {v : V} {i : Int} (h : Pk K F H v (.int i)) : v = .int i := by
  cases h with | rep r => cases r; rfl
theorem Pk.bl {v : V} {i : Bool} (h : Pk K F H v (.bl i)) : v = .bl i := by
  cases h with | rep r => cases r; rfl
theorem Pk.str {v : V} {i : Str} (h : Pk K F H v (.str i)) : v = .str i := by
  cases h with | rep r => cases r; rfl
theorem Pk.non {v : V} (h : Pk K F H v .non) : v = .non := by
  cases h with | rep r => cases r; rfl
theorem Pk.lst {v : V} {ds : List D} (h : Pk K F H v (.lst ds)) (g : Good F H) : ∃ a xs, v = .ref a ∧ H a = some (.lst xs) ∧ Reps K F xs ds := by
  cases h with
  | rep r =>
    cases r with
    | lst h r => exact ⟨_, _, rfl, g.sub _ _ h, r⟩
  | own h t n r => exact ⟨_, _, rfl, h, r⟩
theorem Pk.ty {v : V} {i : String} (h : Pk K F H v (.ty i)) : v = .ty i := by
  cases h with | rep r => cases r; rfl
theorem Pk.scr {v : V} {ns : List Int} (h : Pk K F H v (.scr ns)) (g : Good F H) : ∃ a, v = .ref a ∧ SqL K H a (ns.map V.int) := by
  cases h with
  | rep r =>
    cases r with
    | scr h => exact ⟨_, rfl, g.sub.seq h⟩
theorem Pk.tup {v : V} {ds : List D} (h : Pk K F H v (.tup ds)) (g : Good F H) : ∃ a xs, v = .ref a ∧ SqT K H a xs ∧ Reps K F xs ds := by
  cases h with
  | rep r =>
    cases r with
    | tup h r => exact ⟨_, _, rfl, sqT_same g.sub h.sq, r⟩
end

/-! ### the slots -/
structure Slot where
  own : Bool
  d : D
abbrev En := List (Option Slot)
/-- B: where own lists may stand -/
structure RelE (K : PySem.W.Frag) (B : Addr → Prop) (F : Fz) (H : Hp) (σ : L2.St) (E : En) : Prop where
  len : σ.length = E.length
  val : ∀ (i : Nat) (d : D), E[i]? = some (some ⟨false, d⟩) → ∃ v, σ[i]? = some (some v) ∧ Rep K F v d
  own : ∀ (i : Nat) (d : D), E[i]? = some (some ⟨true, d⟩) → ∃ a xs ds, σ[i]? = some (some (.ref a)) ∧ d = .lst ds ∧ H a = some (.lst xs) ∧ Reps K F xs ds ∧ F.P a = none ∧ ¬ F.T a ∧ B a
  dist : ∀ (i j : Nat) (d e : D) (a : Addr), i ≠ j → E[i]? = some (some ⟨true, d⟩) → E[j]? = some (some ⟨true, e⟩) → σ[i]? = some (some (.ref a)) → σ[j]? ≠ some (some (.ref a))
section
variable {K : PySem.W.Frag} {B : Addr → Prop} {F F' : Fz} {H H' : Hp} {σ : L2.St} {E : En}
theorem own_ext {a : Addr} {o : List V} (e : Ext F H F' H') (h : H a = some (.lst o)) (n : F.P a = none) (t : ¬ F.T a) : H' a = some (.lst o) ∧ F'.P a = none ∧ ¬ F'.T a := by
  refine ⟨e.keep _ _ h t (fun ps z => by cases z), ?_, fun t' => ?_⟩
  · cases q : F'.P a with
    | none => rfl
    | some o =>
      rcases e.fresh _ (.inl (by rw [q]; intro z; cases z)) with z | z | z
      · exact absurd n z
      · exact absurd z t
      · obtain ⟨ps, q⟩ := z _ h; cases q
  · rcases e.fresh _ (.inr t') with z | z | z
    · exact z n
    · exact t z
    · obtain ⟨ps, q⟩ := z _ h; cases q
theorem RelE.ext (r : RelE K B F H σ E) (e : Ext F H F' H') : RelE K B F' H' σ E where
  len := r.len
  val := fun i d h => by
    obtain ⟨v, h1, h2⟩ := r.val i d h
    exact ⟨v, h1, h2.mono e.le⟩
  own := fun i d h => by
    obtain ⟨a, xs, ds, h1, h2, h3, h4, h5, h6, h7⟩ := r.own i d h
    obtain ⟨g1, g2, g3⟩ := own_ext e h3 h5 h6
    exact ⟨a, xs, ds, h1, h2, g1, h4.mono e.le, g2, g3, h7⟩
  dist := r.dist
/-- a still value is stored -/
theorem RelE.put {v : V} {d : D} (r : RelE K B F H σ E) (i : Nat) (h : Rep K F v d) : RelE K B F H (σ.set i (some v)) (E.set i (some ⟨false, d⟩)) where
  len := by simp [r.len]
  val := fun j x hx => by
    by_cases hj : i = j
    · subst hj
      by_cases hl : i < E.length
      · rw [List.getElem?_set_self hl] at hx; cases hx
        exact ⟨v, List.getElem?_set_self (by rw [r.len]; exact hl), h⟩
      · rw [List.getElem?_eq_none (by simpa using hl)] at hx; cases hx
    · rw [List.getElem?_set_ne hj] at hx ⊢; exact r.val j x hx
  own := fun j x hx => by
    by_cases hj : i = j
    · subst hj
      by_cases hl : i < E.length
      · rw [List.getElem?_set_self hl] at hx; cases hx
      · rw [List.getElem?_eq_none (by simpa using hl)] at hx; cases hx
    · rw [List.getElem?_set_ne hj] at hx ⊢; exact r.own j x hx
  dist := fun j k x y a hjk hx hy ha hb => by
    have nj : i ≠ j := fun e => by
      subst e
      by_cases hl : i < E.length
      · rw [List.getElem?_set_self hl] at hx; cases hx
      · rw [List.getElem?_eq_none (by simpa using hl)] at hx; cases hx
    have nk : i ≠ k := fun e => by
      subst e
      by_cases hl : i < E.length
      · rw [List.getElem?_set_self hl] at hy; cases hy
      · rw [List.getElem?_eq_none (by simpa using hl)] at hy; cases hy
    rw [List.getElem?_set_ne nj] at hx ha
    rw [List.getElem?_set_ne nk] at hy hb
    exact r.dist j k x y a hjk hx hy ha hb
/-- a slot is forgotten -/
theorem RelE.drop (r : RelE K B F H σ E) (i : Nat) (o : Option V) : RelE K B F H (σ.set i o) (E.set i none) where
  len := by simp [r.len]
  val := fun j x hx => by
    by_cases hj : i = j
    · subst hj
      by_cases hl : i < E.length
      · rw [List.getElem?_set_self hl] at hx; cases hx
      · rw [List.getElem?_eq_none (by simpa using hl)] at hx; cases hx
    · rw [List.getElem?_set_ne hj] at hx ⊢; exact r.val j x hx
  own := fun j x hx => by
    by_cases hj : i = j
    · subst hj
      by_cases hl : i < E.length
      · rw [List.getElem?_set_self hl] at hx; cases hx
      · rw [List.getElem?_eq_none (by simpa using hl)] at hx; cases hx
    · rw [List.getElem?_set_ne hj] at hx ⊢; exact r.own j x hx
  dist := fun j k x y a hjk hx hy ha hb => by
    have nj : i ≠ j := fun e => by
      subst e
      by_cases hl : i < E.length
      · rw [List.getElem?_set_self hl] at hx; cases hx
      · rw [List.getElem?_eq_none (by simpa using hl)] at hx; cases hx
    have nk : i ≠ k := fun e => by
      subst e
      by_cases hl : i < E.length
      · rw [List.getElem?_set_self hl] at hy; cases hy
      · rw [List.getElem?_eq_none (by simpa using hl)] at hy; cases hy
    rw [List.getElem?_set_ne nj] at hx ha
    rw [List.getElem?_set_ne nk] at hy hb
    exact r.dist j k x y a hjk hx hy ha hb
end
end R

set_option Elab.async false
set_option linter.all false
set_option maxRecDepth 100000
namespace R
open PySem PySem.Spec PyProof.Rows L2
open Tree (leaf fail)

/-! ### judgements -/
def tE (K : PySem.W.Frag) (m : En → Tree D) : TE := fun σ H Q => ∃ B F E, Good F H ∧ RelE K B F H σ E ∧ (m E).all fun d => ∀ v F' H', Ext F H F' H' → Rep K F' v d → Q v H'
def tP (K : PySem.W.Frag) (m : En → Tree D) : TE := fun σ H Q => ∃ B F E, Good F H ∧ RelE K B F H σ E ∧ (m E).all fun d => ∀ v F' H', Ext F H F' H' → Pk K F' H' v d → Q v H'
/-- a new list of one's own -/
def tL (K : PySem.W.Frag) (m : En → Tree (List D)) : TE := fun σ H Q => ∃ B F E, Good F H ∧ RelE K B F H σ E ∧ (m E).all fun ds => ∀ a xs F' H', Ext F H F' H' → H' a = some (.lst xs) → F'.P a = none → ¬ F'.T a → NT H a → Reps K F' xs ds → Q (.ref a) H'
def tT (K : PySem.W.Frag) (m : En → Tree Bool) : TT := fun σ H Q => ∃ B F E, Good F H ∧ RelE K B F H σ E ∧ (m E).all fun b => ∀ F' H', Ext F H F' H' → Q b H'
def tA (K : PySem.W.Frag) (m : En → Tree (List D)) : TA := fun σ H Q => ∃ B F E, Good F H ∧ RelE K B F H σ E ∧ (m E).all fun ds => ∀ vs F' H', Ext F H F' H' → Reps K F' vs ds → Q vs H'
abbrev Pks (K : PySem.W.Frag) (F : Fz) (H : Hp) : List V → List D → Prop := Paired (Pk K F H)
def tPA (K : PySem.W.Frag) (m : En → Tree (List D)) : TA := fun σ H Q => ∃ B F E, Good F H ∧ RelE K B F H σ E ∧ (m E).all fun ds => ∀ vs F' H', Ext F H F' H' → Pks K F' H' vs ds → Q vs H'
structure SE (X : Cx) (e : Expr) (m : En → Tree D) : Prop where
  pe : PE X e (tE X.K m)
structure SP (X : Cx) (e : Expr) (m : En → Tree D) : Prop where
  pe : PE X e (tP X.K m)
structure SL (X : Cx) (e : Expr) (m : En → Tree (List D)) : Prop where
  pe : PE X e (tL X.K m)
structure ST (X : Cx) (e : Expr) (m : En → Tree Bool) : Prop where
  pt : PT X e (tT X.K m)
structure SW (X : Cx) (e : Expr) (m : En → Tree Bool) : Prop where
  pw : PW X e (tT X.K m)
structure SA (X : Cx) (es : List Expr) (m : En → Tree (List D)) : Prop where
  pa : PA X es (tA X.K m)
structure SPA (X : Cx) (es : List Expr) (m : En → Tree (List D)) : Prop where
  pa : PA X es (tPA X.K m)

section
variable {X : Cx}
theorem PE.weak {e : Expr} {t t' : TE} (h : PE X e t) (w : ∀ σ H Q, t' σ H Q → t σ H Q) : PE X e t' := ⟨fun pins s σ H Q I q => h.run pins s σ H Q I (w σ H Q q)⟩
theorem PT.weak {e : Expr} {t t' : TT} (h : PT X e t) (w : ∀ σ H Q, t' σ H Q → t σ H Q) : PT X e t' := ⟨fun pins s σ H Q I q => h.run pins s σ H Q I (w σ H Q q)⟩
theorem PW.weak {e : Expr} {t t' : TT} (h : PW X e t) (w : ∀ σ H Q, t' σ H Q → t σ H Q) : PW X e t' := ⟨fun wh pins s σ H Q I q => h.run wh pins s σ H Q I (w σ H Q q)⟩
theorem PA.weak {es : List Expr} {t t' : TA} (h : PA X es t) (w : ∀ σ H Q, t' σ H Q → t σ H Q) : PA X es t' := ⟨fun pos pins s σ H Q I q => h.run pos pins s σ H Q I (w σ H Q q)⟩
theorem PS.weak {st : Stmt} {t t' : TS} (h : PS X st t) (w : ∀ D σ H, t' D σ H → t D σ H) : PS X st t' := ⟨fun pins s σ H D I q => h.run pins s σ H D I (w D σ H q)⟩
theorem PSs.weak {st : List Stmt} {t t' : TS} (h : PSs X st t) (w : ∀ D σ H, t' D σ H → t D σ H) : PSs X st t' := ⟨fun pins s σ H D I q => h.run pins s σ H D I (w D σ H q)⟩

theorem SE.sp {e : Expr} {m : En → Tree D} (h : SE X e m) : SP X e m := ⟨PE.weak h.pe fun σ H Q ⟨B, F, E, g, r, q⟩ => ⟨B, F, E, g, r, Tree.all_mono (fun d k v F' H' e rp => k v F' H' e (.rep rp)) q⟩⟩
def mList (m : En → Tree (List D)) : En → Tree D := fun E => (m E).bind fun ds => leaf (.lst ds)
theorem SL.se {e : Expr} {m : En → Tree (List D)} (h : SL X e m) : SE X e (mList m) := ⟨PE.weak h.pe fun σ H Q ⟨B, F, E, g, r, q⟩ => ⟨B, F, E, g, r, Tree.all_mono (fun ds k a xs F' H' e h' n t h0 rp =>
  k (.ref a) (F'.add a (.lst xs)) H' (e.freeze h' n t h0) (.lst upd_same (rp.mono (Fz.le_add n)))) (Tree.all_bind.mp q)⟩⟩

/-! ### constants, names -/
theorem se_of {e : Expr} {v : V} {d : D} (h : PE X e (tC v)) (r : ∀ F, Rep X.K F v d) : SE X e (fun _ => leaf d) := ⟨PE.weak h fun σ H Q ⟨B, F, E, g, rl, q⟩ => q v F H (Ext.refl g) (r F)⟩
theorem se_int {i : Int} {j pos} : SE X (.Constant (.int i) j pos) (fun _ => leaf (.int i)) := se_of pe_int fun _ => .int i
theorem se_bl {b : Bool} {j pos} : SE X (.Constant (.bool b) j pos) (fun _ => leaf (.bl b)) := se_of pe_bl fun _ => .bl b
theorem se_non {j pos} : SE X (.Constant .none j pos) (fun _ => leaf .non) := se_of pe_non fun _ => .non
theorem se_str {x : Str} {j pos} : SE X (.Constant (.str x) j pos) (fun _ => leaf (.str x)) := se_of pe_str fun _ => .str x
def mVar (i : Nat) : En → Tree D := fun E => match E[i]? with
  | some (some ⟨false, d⟩) => leaf d
  | _ => fail
def mPeek (i : Nat) : En → Tree D := fun E => match E[i]? with
  | some (some ⟨_, d⟩) => leaf d
  | _ => fail
theorem se_var {i : Nat} {x : Str} {pos : Pos} (h : PE X (.Name x pos) (tVar i)) : SE X (.Name x pos) (mVar i) := ⟨PE.weak h fun σ H Q ⟨B, F, E, g, rl, q⟩ => by
  unfold mVar at q
  split at q
  · rename_i d e
    obtain ⟨v, h1, h2⟩ := rl.val i d e
    exact ⟨v, h1, q v F H (Ext.refl g) h2⟩
  · exact q.elim⟩
theorem sp_var {i : Nat} {x : Str} {pos : Pos} (h : PE X (.Name x pos) (tVar i)) : SP X (.Name x pos) (mPeek i) := ⟨PE.weak h fun σ H Q ⟨B, F, E, g, rl, q⟩ => by
  unfold mPeek at q
  split at q
  · rename_i o d e
    cases o with
    | false =>
      obtain ⟨v, h1, h2⟩ := rl.val i d e
      exact ⟨v, h1, q v F H (Ext.refl g) (.rep h2)⟩
    | true =>
      obtain ⟨a, xs, ds, h1, rfl, h3, h4, h5, h6, _⟩ := rl.own i d e
      exact ⟨.ref a, h1, q (.ref a) F H (Ext.refl g) (.own h3 h6 h5 h4)⟩
  · exact q.elim⟩

/-! ### two parts in a row -/
def m2 (f : D → D → Tree D) (ma mb : En → Tree D) : En → Tree D := fun E => (ma E).bind fun d => (mb E).bind fun e => f d e
def m1 (f : D → Tree D) (ma : En → Tree D) : En → Tree D := fun E => (ma E).bind fun d => f d
/-- what a two-place operation on values asks, by data -/
def Op2 (K : PySem.W.Frag) (r : R2) (f : D → D → Tree D) : Prop := ∀ F H v u d e Q, Good F H → Pk K F H v d → Pk K F H u e → ((f d e).all fun z => ∀ w F' H', Ext F H F' H' → Rep K F' w z → Q w H') → r v u H Q
/-- .. whose answer is a bool, where nothing changes -/
def Cmp2 (K : PySem.W.Frag) (r : R2) (f : D → D → Tree Bool) : Prop := ∀ F H v u d e Q, Good F H → Pk K F H v d → Pk K F H u e → ((f d e).all fun b => Q (.bl b) H) → r v u H Q
theorem two {K : PySem.W.Frag} {ma mb : En → Tree D} {f : D → D → Tree D} {r : R2} (hf : Op2 K r f) {σ : L2.St} {H : Hp} {Q : VK} (h : tE K (m2 f ma mb) σ H Q) : tOp r (tP K ma) (tP K mb) σ H Q := by
  obtain ⟨B, F, E, g, rl, q⟩ := h
  refine ⟨B, F, E, g, rl, Tree.all_mono (fun d k v F1 H1 e1 p1 => ?_) (Tree.all_bind.mp q)⟩
  refine ⟨B, F1, E, e1.good, rl.ext e1, Tree.all_mono (fun e k u F2 H2 e2 p2 => ?_) (Tree.all_bind.mp k)⟩
  exact hf F2 H2 v u d e Q e2.good (p1.ext e2) p2 (Tree.all_mono (fun z kz w F3 H3 e3 rz => kz w F3 H3 ((e1.trans e2).trans e3) rz) k)
variable {a b c : Expr} {ma mb mc : En → Tree D} {pos : Pos}
theorem se_op {op : Operator} {r : R2} {f : D → D → Tree D} (ho : OpR X (binaryOp op) r) (hf : Op2 X.K r f) (ha : SP X a ma) (hb : SP X b mb) : SE X (.BinOp a op b pos) (m2 f ma mb) := ⟨PE.weak (pe_op ho ha.pe hb.pe) fun _ _ _ h => two hf h⟩
theorem se_ix {r : R2} {f : D → D → Tree D} (ho : IxR X r) (hf : Op2 X.K r f) (ha : SP X a ma) (hb : SP X b mb) (hs : PlainIx b) : SE X (.Subscript a b pos) (m2 f ma mb) := ⟨PE.weak (pe_ix ho ha.pe hb.pe hs) fun _ _ _ h => two hf h⟩
def mB (m : En → Tree Bool) : En → Tree D := fun E => (m E).bind fun b => leaf (.bl b)
def mC (f : D → D → Tree Bool) (ma mb : En → Tree D) : En → Tree Bool := fun E => (ma E).bind fun d => (mb E).bind fun e => f d e
theorem se_cmp {op : CmpOp} {r : R2} {f : D → D → Tree Bool} (ho : OpR X (compareOp op) r) (hf : Cmp2 X.K r f) (ha : SP X a ma) (hb : SP X b mb) (hm : behindInMarks op b = false) : SE X (.Compare a [op] [b] pos) (mB (mC f ma mb)) := by
  refine ⟨PE.weak (pe_cmpR ho ha.pe hb.pe hm) fun σ H Q ⟨B, F, E, g, rl, q⟩ => ?_⟩
  refine ⟨B, F, E, g, rl, Tree.all_mono (fun d k v F1 H1 e1 p1 => ?_) (Tree.all_bind.mp (Tree.all_bind.mp q))⟩
  refine ⟨B, F1, E, e1.good, rl.ext e1, Tree.all_mono (fun e k u F2 H2 e2 p2 => ?_) (Tree.all_bind.mp k)⟩
  exact hf F2 H2 v u d e Q e2.good (p1.ext e2) p2 (Tree.all_mono (fun z kz => kz (.bl z) F2 H2 (e1.trans e2) (.bl z)) k)
theorem st_cmp {op : CmpOp} {r : R2} {f : D → D → Tree Bool} (ho : OpR X (compareOp op) r) (hf : Cmp2 X.K r f) (ha : SP X a ma) (hb : SP X b mb) (hm : behindInMarks op b = false) : ST X (.Compare a [op] [b] pos) (mC f ma mb) := by
  refine ⟨PT.weak (pt_cmpR ho ha.pe hb.pe hm) fun σ H Q ⟨B, F, E, g, rl, q⟩ => ?_⟩
  refine ⟨B, F, E, g, rl, Tree.all_mono (fun d k v F1 H1 e1 p1 => ?_) (Tree.all_bind.mp q)⟩
  refine ⟨B, F1, E, e1.good, rl.ext e1, Tree.all_mono (fun e k u F2 H2 e2 p2 => ?_) (Tree.all_bind.mp k)⟩
  exact hf F2 H2 v u d e _ e2.good (p1.ext e2) p2 (Tree.all_mono (fun z kz => ⟨z, rfl, kz F2 H2 (e1.trans e2)⟩) k)
/-- a < b < c -/
def mCh (f g : D → D → Tree Bool) (ma mb mc : En → Tree D) : En → Tree Bool := fun E => (ma E).bind fun d => (mb E).bind fun e => (f d e).bind fun x => if x = true then (mc E).bind fun z => g e z else leaf false
theorem chain {K : PySem.W.Frag} {r r' : R2} {f f' : D → D → Tree Bool} (hf : Cmp2 K r f) (hf' : Cmp2 K r' f') {σ : L2.St} {H : Hp} {Q : VK} {B : Addr → Prop} {F : Fz} {E : En} (g : Good F H) (rl : RelE K B F H σ E)
    (q : (mCh f f' ma mb mc E).all fun z => ∀ F' H', Ext F H F' H' → Q (.bl z) H') : tChain r r' (tP K ma) (tP K mb) (tP K mc) σ H Q := by
  refine ⟨B, F, E, g, rl, Tree.all_mono (fun d k v F1 H1 e1 p1 => ?_) (Tree.all_bind.mp q)⟩
  refine ⟨B, F1, E, e1.good, rl.ext e1, Tree.all_mono (fun e k u F2 H2 e2 p2 => ?_) (Tree.all_bind.mp k)⟩
  refine hf F2 H2 v u d e _ e2.good (p1.ext e2) p2 (Tree.all_mono (fun z kz => ⟨z, rfl, ?_⟩) (Tree.all_bind.mp k))
  cases z with
  | false =>
    rw [if_neg Bool.false_ne_true] at kz ⊢
    exact kz F2 H2 (e1.trans e2)
  | true =>
    rw [if_pos rfl] at kz ⊢
    refine ⟨B, F2, E, e2.good, (rl.ext e1).ext e2, Tree.all_mono (fun z k w F3 H3 e3 p3 => ?_) (Tree.all_bind.mp kz)⟩
    exact hf' F3 H3 u w e z _ e3.good (p2.ext e3) p3 (Tree.all_mono (fun y ky => ky F3 H3 ((e1.trans e2).trans e3)) k)
theorem se_chain {op op' : CmpOp} {r r' : R2} {f f' : D → D → Tree Bool} (ho : OpR X (compareOp op) r) (ho' : OpR X (compareOp op') r') (hf : Cmp2 X.K r f) (hf' : Cmp2 X.K r' f') (ha : SP X a ma) (hb : SP X b mb) (hc : SP X c mc)
    (hm : lastMarks [op, op'] [b, c] = false := by rfl) : SE X (.Compare a [op, op'] [b, c] pos) (mB (mCh f f' ma mb mc)) :=
  ⟨PE.weak (pe_chain ho ho' ha.pe hb.pe hc.pe hm) fun σ H Q ⟨B, F, E, g, rl, q⟩ => chain hf hf' g rl (Tree.all_mono (fun z k F' H' e => k (.bl z) F' H' e (.bl z)) (Tree.all_bind.mp q))⟩
theorem st_chain {op op' : CmpOp} {r r' : R2} {f f' : D → D → Tree Bool} (ho : OpR X (compareOp op) r) (ho' : OpR X (compareOp op') r') (hf : Cmp2 X.K r f) (hf' : Cmp2 X.K r' f') (ha : SP X a ma) (hb : SP X b mb) (hc : SP X c mc)
    (hm : lastMarks [op, op'] [b, c] = false := by rfl) : ST X (.Compare a [op, op'] [b, c] pos) (mCh f f' ma mb mc) :=
  ⟨PT.weak (pt_chain ho ho' ha.pe hb.pe hc.pe hm) fun σ H Q ⟨B, F, E, g, rl, q⟩ => chain hf hf' g rl (Tree.all_mono (fun z k F' H' e => ⟨z, rfl, k F' H' e⟩) q)⟩

/-! ### truth -/
def asB : D → Tree Bool
  | .bl b => leaf b
  | _ => fail
def mT (m : En → Tree D) : En → Tree Bool := fun E => (m E).bind asB
/-- an expression whose value is a bool, as a test -/
theorem st_val {e : Expr} {m : En → Tree D} (h : SP X e m) (he : ∀ whole, isTrue e X.env whole = (do let v ← whole; standAt e.pos; holding [v] (truthy v)) := by intro _; rfl) : ST X e (mT m) := by
  refine ⟨PT.weak (pt_val h.pe he) fun σ H Q ⟨B, F, E, g, rl, q⟩ => ?_⟩
  refine ⟨B, F, E, g, rl, Tree.all_mono (fun d k v F1 H1 e1 p1 => ?_) (Tree.all_bind.mp q)⟩
  cases d with
  | bl b => exact ⟨b, p1.bl, k F1 H1 e1⟩
  | _ => exact False.elim k
def mNot (m : En → Tree Bool) : En → Tree Bool := fun E => (m E).bind fun b => leaf (!b)
def mAnd (m n : En → Tree Bool) : En → Tree Bool := fun E => (m E).bind fun b => if b = true then n E else leaf false
def mOr (m n : En → Tree Bool) : En → Tree Bool := fun E => (m E).bind fun b => if b = true then leaf true else n E
theorem SW.st {e : Expr} {m : En → Tree Bool} (h : SW X e m) : ST X e m := ⟨h.pw.pt⟩
variable {rest : List Expr} {ta tb : En → Tree Bool}
theorem sw_and1 (ha : ST X a ta) : SW X (.BoolOp .And [a] pos) ta := ⟨pw_and1 ha.pt⟩
theorem sw_or1 (ha : ST X a ta) : SW X (.BoolOp .Or [a] pos) ta := ⟨pw_or1 ha.pt⟩
theorem sw_and (ha : ST X a ta) (hb : SW X (.BoolOp .And (b :: rest) pos) tb) : SW X (.BoolOp .And (a :: b :: rest) pos) (mAnd ta tb) := by
  refine ⟨PW.weak (pw_and ha.pt hb.pw) fun σ H Q ⟨B, F, E, g, rl, q⟩ => ?_⟩
  refine ⟨B, F, E, g, rl, Tree.all_mono (fun z k F1 H1 e1 => ?_) (Tree.all_bind.mp q)⟩
  cases z with
  | false => exact k F1 H1 e1
  | true => exact ⟨B, F1, E, e1.good, rl.ext e1, Tree.all_mono (fun y ky F2 H2 e2 => ky F2 H2 (e1.trans e2)) k⟩
theorem sw_or (ha : ST X a ta) (hb : SW X (.BoolOp .Or (b :: rest) pos) tb) : SW X (.BoolOp .Or (a :: b :: rest) pos) (mOr ta tb) := by
  refine ⟨PW.weak (pw_or ha.pt hb.pw) fun σ H Q ⟨B, F, E, g, rl, q⟩ => ?_⟩
  refine ⟨B, F, E, g, rl, Tree.all_mono (fun z k F1 H1 e1 => ?_) (Tree.all_bind.mp q)⟩
  cases z with
  | true => exact k F1 H1 e1
  | false => exact ⟨B, F1, E, e1.good, rl.ext e1, Tree.all_mono (fun y ky F2 H2 e2 => ky F2 H2 (e1.trans e2)) k⟩
theorem st_not (ha : ST X a ta) : ST X (.UnaryOp .Not a pos) (mNot ta) := by
  refine ⟨PT.weak (pt_not ha.pt) fun σ H Q ⟨B, F, E, g, rl, q⟩ => ?_⟩
  exact ⟨B, F, E, g, rl, Tree.all_mono (fun z k F1 H1 e1 => k F1 H1 e1) (Tree.all_bind.mp q)⟩
/-- .. as values: all but the last are bools -/
def mAndV (m n : En → Tree D) : En → Tree D := fun E => (m E).bind fun d => (asB d).bind fun b => if b = true then n E else leaf (.bl false)
def mOrV (m n : En → Tree D) : En → Tree D := fun E => (m E).bind fun d => (asB d).bind fun b => if b = true then leaf (.bl true) else n E
theorem se_one {op} (h : SE X a ma) : SE X (.BoolOp op [a] pos) ma := ⟨pe_one h.pe⟩
theorem se_and (ha : SE X a ma) (hb : SE X (.BoolOp .And (b :: rest) pos) mb) : SE X (.BoolOp .And (a :: b :: rest) pos) (mAndV ma mb) := by
  refine ⟨PE.weak (pe_and ha.pe hb.pe) fun σ H Q ⟨B, F, E, g, rl, q⟩ => ?_⟩
  refine ⟨B, F, E, g, rl, Tree.all_mono (fun d k v F1 H1 e1 p1 => ?_) (Tree.all_bind.mp q)⟩
  cases d with
  | bl z =>
    cases p1
    refine ⟨z, rfl, ?_⟩
    cases z with
    | false => exact k (.bl false) F1 H1 e1 (.bl false)
    | true => exact ⟨B, F1, E, e1.good, rl.ext e1, Tree.all_mono (fun y ky w F2 H2 e2 => ky w F2 H2 (e1.trans e2)) k⟩
  | _ => exact False.elim k
theorem se_or (ha : SE X a ma) (hb : SE X (.BoolOp .Or (b :: rest) pos) mb) : SE X (.BoolOp .Or (a :: b :: rest) pos) (mOrV ma mb) := by
  refine ⟨PE.weak (pe_or ha.pe hb.pe) fun σ H Q ⟨B, F, E, g, rl, q⟩ => ?_⟩
  refine ⟨B, F, E, g, rl, Tree.all_mono (fun d k v F1 H1 e1 p1 => ?_) (Tree.all_bind.mp q)⟩
  cases d with
  | bl z =>
    cases p1
    refine ⟨z, rfl, ?_⟩
    cases z with
    | true => exact k (.bl true) F1 H1 e1 (.bl true)
    | false => exact ⟨B, F1, E, e1.good, rl.ext e1, Tree.all_mono (fun y ky w F2 H2 e2 => ky w F2 H2 (e1.trans e2)) k⟩
  | _ => exact False.elim k
def mNotV (m : En → Tree D) : En → Tree D := fun E => (m E).bind fun d => (asB d).bind fun b => leaf (.bl !b)
theorem se_not (ha : SE X a ma) : SE X (.UnaryOp .Not a pos) (mNotV ma) := by
  refine ⟨PE.weak (pe_not ha.pe) fun σ H Q ⟨B, F, E, g, rl, q⟩ => ?_⟩
  refine ⟨B, F, E, g, rl, Tree.all_mono (fun d k v F1 H1 e1 p1 => ?_) (Tree.all_bind.mp q)⟩
  cases d with
  | bl z =>
    cases p1
    exact ⟨z, rfl, k (.bl !z) F1 H1 e1 (.bl !z)⟩
  | _ => exact False.elim k
def mIf (t : En → Tree Bool) (m n : En → Tree D) : En → Tree D := fun E => (t E).bind fun b => if b = true then m E else n E
theorem se_if (hc : ST X c ta) (ha : SE X a ma) (hb : SE X b mb) : SE X (.IfExp c a b pos) (mIf ta ma mb) := by
  refine ⟨PE.weak (pe_ifExp hc.pt ha.pe hb.pe) fun σ H Q ⟨B, F, E, g, rl, q⟩ => ?_⟩
  refine ⟨B, F, E, g, rl, Tree.all_mono (fun z k F1 H1 e1 => ?_) (Tree.all_bind.mp q)⟩
  cases z with
  | true => exact ⟨B, F1, E, e1.good, rl.ext e1, Tree.all_mono (fun y ky w F2 H2 e2 => ky w F2 H2 (e1.trans e2)) k⟩
  | false => exact ⟨B, F1, E, e1.good, rl.ext e1, Tree.all_mono (fun y ky w F2 H2 e2 => ky w F2 H2 (e1.trans e2)) k⟩

/-! ### argument lists -/
def aNil : En → Tree (List D) := fun _ => leaf []
def aCons (m : En → Tree D) (n : En → Tree (List D)) : En → Tree (List D) := fun E => (m E).bind fun d => (n E).bind fun ds => leaf (d :: ds)
variable {es : List Expr} {mr : En → Tree (List D)}
theorem sa_nil : SA X [] aNil := ⟨PA.weak pa_nil fun σ H Q ⟨B, F, E, g, rl, q⟩ => q [] F H (Ext.refl g) .nil⟩
theorem spa_nil : SPA X [] aNil := ⟨PA.weak pa_nil fun σ H Q ⟨B, F, E, g, rl, q⟩ => q [] F H (Ext.refl g) .nil⟩
theorem sa_cons (ha : SE X a ma) (hr : SA X es mr) (hs : starEach (a :: es) X.env = (false, eval a X.env) :: starEach es X.env := by rfl) : SA X (a :: es) (aCons ma mr) := by
  refine ⟨PA.weak (pa_cons ha.pe hr.pa hs) fun σ H Q ⟨B, F, E, g, rl, q⟩ => ?_⟩
  refine ⟨B, F, E, g, rl, Tree.all_mono (fun d k v F1 H1 e1 p1 => ?_) (Tree.all_bind.mp q)⟩
  refine ⟨B, F1, E, e1.good, rl.ext e1, Tree.all_mono (fun ds k vs F2 H2 e2 p2 => ?_) (Tree.all_bind.mp k)⟩
  exact k (v :: vs) F2 H2 (e1.trans e2) (.cons (p1.mono e2.le) p2)
theorem spa_cons (ha : SP X a ma) (hr : SPA X es mr) (hs : starEach (a :: es) X.env = (false, eval a X.env) :: starEach es X.env := by rfl) : SPA X (a :: es) (aCons ma mr) := by
  refine ⟨PA.weak (pa_cons ha.pe hr.pa hs) fun σ H Q ⟨B, F, E, g, rl, q⟩ => ?_⟩
  refine ⟨B, F, E, g, rl, Tree.all_mono (fun d k v F1 H1 e1 p1 => ?_) (Tree.all_bind.mp q)⟩
  refine ⟨B, F1, E, e1.good, rl.ext e1, Tree.all_mono (fun ds k vs F2 H2 e2 p2 => ?_) (Tree.all_bind.mp k)⟩
  exact k (v :: vs) F2 H2 (e1.trans e2) (.cons (p1.ext e2) p2)

/-! ### displays -/
def lineOk {α : Type} (n : Nat) (t : Tree α) : Tree α := if n ≤ sizeLine then t else fail
theorem lineOk_all {α : Type} {n : Nat} {t : Tree α} {P : α → Prop} (h : (lineOk n t).all P) : n ≤ sizeLine ∧ t.all P := by
  unfold lineOk at h
  split at h
  · exact ⟨by assumption, h⟩
  · exact h.elim
def mTup (m : En → Tree (List D)) : En → Tree D := fun E => (m E).bind fun ds => lineOk ds.length (leaf (.tup ds))
theorem se_tup {x1} (h : SA X es mr) : SE X (.Tuple es x1 pos) (mTup mr) := by
  refine ⟨PE.weak (pe_tup h.pa) fun σ H Q ⟨B, F, E, g, rl, q⟩ => ?_⟩
  refine ⟨B, F, E, g, rl, Tree.all_mono (fun ds k vs F1 H1 e1 p1 => ?_) (Tree.all_bind.mp q)⟩
  obtain ⟨hl, k⟩ := lineOk_all k
  refine ⟨by rw [p1.length]; exact hl, fun p hp => k (.ref p) (F1.add p (.tup vs)) _ (e1.trans (Ext.addNew e1.good hp)) (.tup (.of upd_same) (p1.mono (Fz.le_add (e1.good.free hp).1)))⟩
def mLst (m : En → Tree (List D)) : En → Tree (List D) := fun E => (m E).bind fun ds => lineOk ds.length (leaf ds)
theorem ext_none {F F' : Fz} {H H' : Hp} {p : Addr} (g : Good F H) (e : Ext F H F' H') (hp : H' p = none) : NT H p := by
  by_cases t : F.T p
  · obtain ⟨x, y, z, _⟩ := (e.good.pot p (e.monoT p t)).2
    rw [z] at hp; cases hp
  · exact e.back (.none hp) t
theorem sl_lst (h : SA X es mr) : SL X (.List es pos) (mLst mr) := by
  refine ⟨PE.weak (pe_lst h.pa) fun σ H Q ⟨B, F, E, g, rl, q⟩ => ?_⟩
  refine ⟨B, F, E, g, rl, Tree.all_mono (fun ds k vs F1 H1 e1 p1 => ?_) (Tree.all_bind.mp q)⟩
  obtain ⟨hl, k⟩ := lineOk_all k
  exact ⟨by rw [p1.length]; exact hl, fun p hp => k p vs F1 _ (e1.trans (Ext.new e1.good hp)) upd_same (e1.good.free hp).1 (e1.good.free hp).2 (ext_none g e1 hp) p1⟩

/-! ### calls -/
/-- what a call of values asks, by data -/
def Fn1 (K : PySem.W.Frag) (r : List V → Hp → VK → Prop) (f : List D → Tree D) : Prop := ∀ F H vs ds Q, Good F H → Pks K F H vs ds → ((f ds).all fun z => ∀ w F' H', Ext F H F' H' → Rep K F' w z → Q w H') → r vs H Q
def mA (f : List D → Tree D) (m : En → Tree (List D)) : En → Tree D := fun E => (m E).bind f
theorem callA {K : PySem.W.Frag} {r : List V → Hp → VK → Prop} {f : List D → Tree D} {m : En → Tree (List D)} (hf : Fn1 K r f) {σ : L2.St} {H : Hp} {Q : VK} (h : tE K (mA f m) σ H Q) : tPA K m σ H fun vs H1 => r vs H1 Q := by
  obtain ⟨B, F, E, g, rl, q⟩ := h
  refine ⟨B, F, E, g, rl, Tree.all_mono (fun ds k vs F1 H1 e1 p1 => ?_) (Tree.all_bind.mp q)⟩
  exact hf F1 H1 vs ds Q e1.good p1 (Tree.all_mono (fun z kz w F2 H2 e2 rz => kz w F2 H2 (e1.trans e2) rz) k)
end
end R

set_option Elab.async false
set_option linter.all false
set_option maxRecDepth 100000
namespace R
open PySem PySem.Spec PyProof.Rows L2
open Tree (leaf fail)

/-! ### statements -/
inductive Out where
  | nx (E : En) | rt (d : D) | bk (E : En) | ct (E : En)
section
variable (K : PySem.W.Frag) (F0 : Fz) (H0 : Hp) (F : Fz) (D0 : Ends)
def B0 (H0 : Hp) : Addr → Prop := fun a => NT H0 a
def PostE (T : L2.St → Hp → Prop) (E : En) : Prop := ∀ σ' F' H', Ext F0 H0 F' H' → F.Le F' → RelE K (B0 H0) F' H' σ' E → T σ' H'
def Post : Out → Prop
  | .nx E => PostE K F0 H0 F D0.nx E
  | .rt d => ∀ v F' H', Ext F0 H0 F' H' → F.Le F' → Rep K F' v d → D0.rt v H'
  | .bk E => PostE K F0 H0 F D0.bk E
  | .ct E => PostE K F0 H0 F D0.ct E
end
def tS (K : PySem.W.Frag) (m : En → Tree Out) : TS := fun D0 σ H => ∃ F0 H0 F E, Ext F0 H0 F H ∧ RelE K (B0 H0) F H σ E ∧ (m E).all (Post K F0 H0 F D0)
structure SS (X : Cx) (st : Stmt) (m : En → Tree Out) : Prop where
  ps : PS X st (tS X.K m)
structure SSs (X : Cx) (st : List Stmt) (m : En → Tree Out) : Prop where
  ps : PSs X st (tS X.K m)
theorem Fz.Le.trans {F F1 F2 : Fz} (a : F.Le F1) (b : F1.Le F2) : F.Le F2 := ⟨a.p.trans b.p, fun c h => b.t c (a.t c h)⟩
theorem Fz.Le.refl (F : Fz) : F.Le F := ⟨Same.refl _, fun _ h => h⟩
section
variable {K : PySem.W.Frag} {F0 F F1 : Fz} {H0 : Hp} {D0 : Ends}
theorem Post.le {o : Out} (l : F.Le F1) (h : Post K F0 H0 F D0 o) : Post K F0 H0 F1 D0 o := by
  cases o with
  | nx E => exact fun σ' F' H' e l' r => h σ' F' H' e (l.trans l') r
  | rt d => exact fun v F' H' e l' r => h v F' H' e (l.trans l') r
  | bk E => exact fun σ' F' H' e l' r => h σ' F' H' e (l.trans l') r
  | ct E => exact fun σ' F' H' e l' r => h σ' F' H' e (l.trans l') r
end

section
variable {X : Cx} {st : Stmt} {rest : List Stmt} {m n : En → Tree Out} {e : Expr} {me : En → Tree D} {pos : Pos}
def oNx : En → Tree Out := fun E => leaf (.nx E)
def oSeq (m n : En → Tree Out) : En → Tree Out := fun E => (m E).bind fun o => match o with
  | .nx E' => n E'
  | o => leaf o
theorem ss_nil : SSs X [] oNx := ⟨PSs.weak pss_nil fun D0 σ H ⟨F0, H0, F, E, e, r, q⟩ => q σ F H e (Fz.Le.refl F) r⟩
theorem ss_cons (h1 : SS X st m) (h2 : SSs X rest n) : SSs X (st :: rest) (oSeq m n) := by
  refine ⟨PSs.weak (pss_cons h1.ps h2.ps) fun D0 σ H ⟨F0, H0, F, E, e, r, q⟩ => ?_⟩
  refine ⟨F0, H0, F, E, e, r, Tree.all_mono (fun o k => ?_) (Tree.all_bind.mp q)⟩
  cases o with
  | nx E' => exact fun σ' F' H' e' l r' => ⟨F0, H0, F', E', e', r', Tree.all_mono (fun o h => h.le l) k⟩
  | rt d => exact k
  | bk E' => exact k
  | ct E' => exact k
theorem ss_one (h1 : SS X st m) : SSs X [st] m := ⟨pss_one h1.ps⟩
theorem s_pass : SS X (.Pass pos) oNx := ⟨PS.weak ps_pass fun D0 σ H ⟨F0, H0, F, E, e, r, q⟩ => q σ F H e (Fz.Le.refl F) r⟩
def oBk : En → Tree Out := fun E => leaf (.bk E)
def oCt : En → Tree Out := fun E => leaf (.ct E)
theorem s_break : SS X (.Break pos) oBk := ⟨PS.weak ps_break fun D0 σ H ⟨F0, H0, F, E, e, r, q⟩ => q σ F H e (Fz.Le.refl F) r⟩
theorem s_continue : SS X (.Continue pos) oCt := ⟨PS.weak ps_continue fun D0 σ H ⟨F0, H0, F, E, e, r, q⟩ => q σ F H e (Fz.Le.refl F) r⟩
def oFail : En → Tree Out := fun _ => fail
theorem s_never : SS X st oFail := ⟨PS.weak ps_never fun D0 σ H ⟨F0, H0, F, E, e, r, q⟩ => q.elim⟩
/-- an expression in a statement -/
theorem exprIn {K : PySem.W.Frag} {F0 F : Fz} {H0 H : Hp} {σ : L2.St} {E : En} {Q : VK} (e : Ext F0 H0 F H) (r : RelE K (B0 H0) F H σ E) (h : (me E).all fun d => ∀ v F' H', Ext F0 H0 F' H' → F.Le F' → RelE K (B0 H0) F' H' σ E → Rep K F' v d → Q v H') : tE K me σ H Q :=
  ⟨B0 H0, F, E, e.good, r, Tree.all_mono (fun d k v F' H' e' p => k v F' H' (e.trans e') e'.le (r.ext e') p) h⟩
def oEx (me : En → Tree D) : En → Tree Out := fun E => (me E).bind fun _ => leaf (.nx E)
theorem s_expr (he : SE X e me) (hs : swapsWith e none pos.line X.env = pure false := by rfl) : SS X (.Expr e pos) (oEx me) := ⟨PS.weak (ps_expr he.pe hs) fun D0 σ H ⟨F0, H0, F, E, e, r, q⟩ =>
  exprIn e r (Tree.all_mono (fun d k v F' H' e' l r' p => k σ F' H' e' l r') (Tree.all_bind.mp q))⟩
def oRet (me : En → Tree D) : En → Tree Out := fun E => (me E).bind fun d => leaf (.rt d)
theorem s_ret (he : SE X e me) : SS X (.Return (some e) pos) (oRet me) := ⟨PS.weak (ps_ret he.pe) fun D0 σ H ⟨F0, H0, F, E, e, r, q⟩ =>
  exprIn e r (Tree.all_mono (fun d k v F' H' e' l r' p => k v F' H' e' l p) (Tree.all_bind.mp q))⟩
def oRetN : En → Tree Out := fun _ => leaf (.rt .non)
theorem s_retN : SS X (.Return none pos) oRetN := ⟨PS.weak ps_retN fun D0 σ H ⟨F0, H0, F, E, e, r, q⟩ => q .non F H e (Fz.Le.refl F) .non⟩
def En.put (E : En) (i : Nat) (d : D) : En := E.set i (some ⟨false, d⟩)
def En.putOwn (E : En) (i : Nat) (d : D) : En := E.set i (some ⟨true, d⟩)
def oSet (i : Nat) (me : En → Tree D) : En → Tree Out := fun E => (me E).bind fun d => leaf (.nx (E.put i d))
theorem s_asg {i : Nat} {te : TE} (h : PS X st (tAsg te (gName i))) (w : ∀ σ H Q, tE X.K me σ H Q → te σ H Q) : SS X st (oSet i me) := ⟨PS.weak h fun D0 σ H ⟨F0, H0, F, E, e, r, q⟩ =>
  w _ _ _ (exprIn e r (Tree.all_mono (fun d k v F' H' e' l r' p => k _ F' H' e' l (r'.put i p)) (Tree.all_bind.mp q)))⟩
/-- a list of one's own at a name -/
theorem RelE.putOwn {K : PySem.W.Frag} {B : Addr → Prop} {F : Fz} {H : Hp} {σ : L2.St} {E : En} {a : Addr} {xs : List V} {ds : List D} (r : RelE K B F H σ E) (i : Nat) (h : H a = some (.lst xs)) (rp : Reps K F xs ds) (n : F.P a = none) (t : ¬ F.T a) (b : B a)
    (ne : ∀ (j : Nat) d, j ≠ i → E[j]? = some (some ⟨true, d⟩) → σ[j]? ≠ some (some (.ref a))) : RelE K B F H (σ.set i (some (.ref a))) (En.putOwn E i (.lst ds)) where
  len := by simp [r.len, En.putOwn]
  val := fun j x hx => by
    by_cases hj : i = j
    · subst hj
      by_cases hl : i < E.length
      · rw [En.putOwn, List.getElem?_set_self hl] at hx; cases hx
      · rw [En.putOwn, List.getElem?_eq_none (by simpa using hl)] at hx; cases hx
    · rw [En.putOwn, List.getElem?_set_ne hj] at hx; rw [List.getElem?_set_ne hj]; exact r.val j x hx
  own := fun j x hx => by
    by_cases hj : i = j
    · subst hj
      by_cases hl : i < E.length
      · rw [En.putOwn, List.getElem?_set_self hl] at hx; cases hx
        exact ⟨a, xs, ds, List.getElem?_set_self (by rw [r.len]; exact hl), rfl, h, rp, n, t, b⟩
      · rw [En.putOwn, List.getElem?_eq_none (by simpa using hl)] at hx; cases hx
    · rw [En.putOwn, List.getElem?_set_ne hj] at hx; rw [List.getElem?_set_ne hj]; exact r.own j x hx
  dist := fun j k x y c hjk hx hy ha hb => by
    unfold En.putOwn at hx hy
    by_cases hj : i = j
    · subst hj
      rw [List.getElem?_set_ne hjk] at hy hb
      by_cases hl : i < σ.length
      · rw [List.getElem?_set_self hl] at ha; cases ha
        exact ne k y (Ne.symm hjk) hy hb
      · rw [List.getElem?_eq_none (by simpa using hl)] at ha; cases ha
    · rw [List.getElem?_set_ne hj] at hx ha
      by_cases hk : i = k
      · subst hk
        by_cases hl : i < σ.length
        · rw [List.getElem?_set_self hl] at hb; cases hb
          exact ne j x hjk hx ha
        · rw [List.getElem?_eq_none (by simpa using hl)] at hb; cases hb
      · rw [List.getElem?_set_ne hk] at hy hb
        exact r.dist j k x y c hjk hx hy ha hb
def oOwn (i : Nat) (ml : En → Tree (List D)) : En → Tree Out := fun E => (ml E).bind fun ds => leaf (.nx (E.putOwn i (.lst ds)))
theorem ownIn {K : PySem.W.Frag} {F0 F : Fz} {H0 H : Hp} {σ : L2.St} {E : En} {D0 : Ends} {i : Nat} {ml : En → Tree (List D)} (e : Ext F0 H0 F H) (r : RelE K (B0 H0) F H σ E) (q : (oOwn i ml E).all (Post K F0 H0 F D0)) : tL K ml σ H fun v H1 => D0.nx (σ.set i (some v)) H1 := by
  refine ⟨B0 H0, F, E, e.good, r, Tree.all_mono (fun ds k a xs F' H' e' h n t h0 rp => ?_) (Tree.all_bind.mp q)⟩
  refine k _ F' H' (e.trans e') e'.le ((r.ext e').putOwn i h rp n t ?_ fun j d _ hj hs => ?_)
  · by_cases t0 : F0.T a
    · exact absurd (e'.monoT _ (e.monoT _ t0)) t
    · exact e.back h0 t0
  · obtain ⟨a', xs', ds', h1, _, h3, _⟩ := r.own j d hj
    rw [h1] at hs; cases hs
    obtain ⟨ps, z⟩ := h0 _ h3; cases z
theorem s_own {i : Nat} {te : TE} (h : PS X st (tAsg te (gName i))) {ml : En → Tree (List D)} (w : ∀ σ H Q, tL X.K ml σ H Q → te σ H Q) : SS X st (oOwn i ml) := ⟨PS.weak h fun D0 σ H ⟨F0, H0, F, E, e, r, q⟩ => w _ _ _ (ownIn e r q)⟩
/-- own lists are made still -/
def frz1 (i : Nat) (E : En) : En := match E[i]? with
  | some (some ⟨true, d⟩) => E.set i (some ⟨false, d⟩)
  | _ => E
theorem freeze1 {K : PySem.W.Frag} {F0 F : Fz} {H0 H : Hp} {σ : L2.St} {E : En} (i : Nat) (e : Ext F0 H0 F H) (r : RelE K (B0 H0) F H σ E) : ∃ F', Ext F0 H0 F' H ∧ F.Le F' ∧ RelE K (B0 H0) F' H σ (frz1 i E) := by
  unfold frz1
  split
  · rename_i d hd
    obtain ⟨a, xs, ds, h1, rfl, h3, h4, h5, h6, h7⟩ := r.own i d hd
    have le : F.Le (F.add a (.lst xs)) := Fz.le_add h5
    have e' : Ext F0 H0 (F.add a (.lst xs)) H := e.freeze h3 h5 h6 h7
    refine ⟨F.add a (.lst xs), e', le, ?_⟩
    have hi : i < E.length := (List.getElem?_eq_some_iff.mp hd).1
    have rp : Rep K (F.add a (.lst xs)) (.ref a) (.lst ds) := .lst upd_same (h4.mono le)
    refine ⟨by simp [r.len], fun j x hx => ?_, fun j x hx => ?_, fun j k x y c hjk hx hy ha hb => ?_⟩
    · by_cases hj : i = j
      · subst hj
        rw [List.getElem?_set_self hi] at hx; cases hx
        exact ⟨.ref a, h1, rp⟩
      · rw [List.getElem?_set_ne hj] at hx
        obtain ⟨v, g1, g2⟩ := r.val j x hx
        exact ⟨v, g1, g2.mono le⟩
    · by_cases hj : i = j
      · subst hj
        rw [List.getElem?_set_self hi] at hx; cases hx
      · rw [List.getElem?_set_ne hj] at hx
        obtain ⟨b, ys, es, g1, rfl, g3, g4, g5, g6, g7⟩ := r.own j x hx
        have nb : b ≠ a := fun z => by
          subst z
          exact r.dist i j _ _ b hj hd hx h1 g1
        exact ⟨b, ys, es, g1, rfl, g3, g4.mono le, by rw [show (F.add a (.lst xs)).P b = F.P b from upd_ne nb]; exact g5, g6, g7⟩
    · have nj : i ≠ j := fun z => by
        subst z; rw [List.getElem?_set_self hi] at hx; cases hx
      have nk : i ≠ k := fun z => by
        subst z; rw [List.getElem?_set_self hi] at hy; cases hy
      rw [List.getElem?_set_ne nj] at hx
      rw [List.getElem?_set_ne nk] at hy
      exact r.dist j k x y c hjk hx hy ha hb
  · exact ⟨F, e, Fz.Le.refl F, r⟩
def oFrz (i : Nat) (m : En → Tree Out) : En → Tree Out := fun E => m (frz1 i E)
theorem s_frz (i : Nat) (h : SS X st m) : SS X st (oFrz i m) := ⟨PS.weak h.ps fun D0 σ H ⟨F0, H0, F, E, e, r, q⟩ => by
  obtain ⟨F', e', l, r'⟩ := freeze1 i e r
  exact ⟨F0, H0, F', frz1 i E, e', r', Tree.all_mono (fun o h => h.le l) q⟩⟩
def oIf (c : En → Tree Bool) (m n : En → Tree Out) : En → Tree Out := fun E => (c E).bind fun b => if b = true then m E else n E
theorem s_if {c : Expr} {a b : List Stmt} {mc : En → Tree Bool} (hc : ST X c mc) (ha : SSs X a m) (hb : SSs X b n) : SS X (.If c a b pos) (oIf mc m n) := by
  refine ⟨PS.weak (ps_if hc.pt ha.ps hb.ps) fun D0 σ H ⟨F0, H0, F, E, e, r, q⟩ => ?_⟩
  refine ⟨B0 H0, F, E, e.good, r, Tree.all_mono (fun z k F' H' e' => ?_) (Tree.all_bind.mp q)⟩
  cases z with
  | true => exact ⟨F0, H0, F', E, e.trans e', r.ext e', Tree.all_mono (fun o h => h.le e'.le) k⟩
  | false => exact ⟨F0, H0, F', E, e.trans e', r.ext e', Tree.all_mono (fun o h => h.le e'.le) k⟩
/-- a, b = x, y -/
def oPar (i j : Nat) (ma : En → Tree (List D)) : En → Tree Out := fun E => (ma E).bind fun ds => match ds with
  | [d, e] => leaf (.nx ((E.put i d).put j e))
  | _ => fail
theorem s_par {i j : Nat} {ta : TA} {ma : En → Tree (List D)} (h : PS X st (tPar i j ta)) (w : ∀ σ H Q, tA X.K ma σ H Q → ta σ H Q) : SS X st (oPar i j ma) := by
  refine ⟨PS.weak h fun D0 σ H ⟨F0, H0, F, E, e, r, q⟩ => w _ _ _ ?_⟩
  refine ⟨B0 H0, F, E, e.good, r, Tree.all_mono (fun ds k vs F' H' e' p => ?_) (Tree.all_bind.mp q)⟩
  cases p with
  | nil => exact False.elim k
  | cons p1 p =>
    cases p with
    | nil => exact False.elim k
    | cons p2 p =>
      cases p with
      | nil => exact ⟨_, _, rfl, k _ F' H' (e.trans e') e'.le (((r.ext e').put i p1).put j p2)⟩
      | cons _ _ => exact False.elim k
/-! ### while, by fuel -/
def oWhile (c : En → Tree Bool) (m : En → Tree Out) : Nat → En → Tree Out
  | 0, _ => fail
  | f + 1, E => (c E).bind fun b => if b = true then (m E).bind fun o => match o with
      | .nx E' => oWhile c m f E'
      | .ct E' => oWhile c m f E'
      | .bk E' => leaf (.nx E')
      | .rt d => leaf (.rt d)
    else leaf (.nx E)
theorem s_while (fuel : Nat) {c : Expr} {b : List Stmt} {mc : En → Tree Bool} (h : ∀ {tc tb}, PT X c tc → PSs X b tb → PS X st (tWhile tc tb)) (hc : ST X c mc) (hb : SSs X b m) : SS X st (oWhile mc m fuel) := by
  refine ⟨PS.weak (h hc.pt hb.ps) fun D0 σ H ⟨F0, H0, F, E, e, r, q⟩ => ?_⟩
  refine ⟨fun n σ H => ∃ F E, Ext F0 H0 F H ∧ RelE X.K (B0 H0) F H σ E ∧ (oWhile mc m n E).all (Post X.K F0 H0 F D0), ⟨fuel, F, E, e, r, q⟩, ?_⟩
  rintro n σ H ⟨F, E, e, r, q⟩
  cases n with
  | zero => exact q.elim
  | succ n =>
    refine ⟨B0 H0, F, E, e.good, r, Tree.all_mono (fun z k F' H' e' => ?_) (Tree.all_bind.mp q)⟩
    cases z with
    | false => exact k σ F' H' (e.trans e') e'.le (r.ext e')
    | true =>
      refine ⟨_, fun σ' H' p => ⟨n, Nat.lt_succ_self n, p⟩, ?_⟩
      refine ⟨F0, H0, F', E, e.trans e', r.ext e', Tree.all_mono (fun o k => ?_) (Tree.all_bind.mp k)⟩
      cases o with
      | nx E' => exact fun σ2 F2 H2 e2 l2 r2 => ⟨F2, E', e2, r2, Tree.all_mono (fun o h => h.le (e'.le.trans l2)) k⟩
      | ct E' => exact fun σ2 F2 H2 e2 l2 r2 => ⟨F2, E', e2, r2, Tree.all_mono (fun o h => h.le (e'.le.trans l2)) k⟩
      | bk E' => exact fun σ2 F2 H2 e2 l2 r2 => k σ2 F2 H2 e2 (e'.le.trans l2) r2
      | rt d => exact fun v F2 H2 e2 l2 r2 => k v F2 H2 e2 (e'.le.trans l2) r2
end

/-! ### what is walked -/
/-- the items that an iterator yields, one by one, while all that is still stays -/
def Yld (K : PySem.W.Frag) (J : It) (A : Fz → Hp → Prop) (ds : List D) : Prop := ∀ F' H', A F' H' → Good F' H' → ∀ i, (∀ d, ds[i]? = some d → J.go i H' ∧ ∀ x H'', J.yld i H' x H'' → ∃ F'', Ext F' H' F'' H'' ∧ Rep K F'' x d) ∧ (ds.length ≤ i → J.stop i H')
structure SI (X : Cx) (tg iter : Expr) (m : En → Tree (List D)) : Prop where
  pi : ∃ wi, PI X tg iter wi ∧ ∀ σ H R, (∃ B F E, Good F H ∧ RelE X.K B F H σ E ∧ (m E).all fun ds => ∀ J F' H', Ext F H F' H' → Yld X.K J (fun F2 _ => F'.Le F2) ds → R J H') → wi σ H R
/-- .. where own lists are not changed in the meantime (a comprehension) -/
structure SIp (X : Cx) (tg iter : Expr) (m : En → Tree (List D)) : Prop where
  pi : ∃ wi, PI X tg iter wi ∧ ∀ σ H R, (∃ B F E, Good F H ∧ RelE X.K B F H σ E ∧ (m E).all fun ds => ∀ J F' H', Ext F H F' H' → Yld X.K J (fun F2 H2 => Ext F' H' F2 H2) ds → R J H') → wi σ H R
theorem SI.sip {X : Cx} {tg iter : Expr} {m : En → Tree (List D)} (h : SI X tg iter m) : SIp X tg iter m := by
  obtain ⟨wi, h1, h2⟩ := h.pi
  refine ⟨wi, h1, fun σ H R ⟨B, F, E, g, r, q⟩ => h2 σ H R ⟨B, F, E, g, r, Tree.all_mono (fun ds k J F' H' e y => k J F' H' e fun F2 H2 a g => y F2 H2 a.le g) q⟩⟩
/-- a target, by data -/
def But (js : List Nat) (σ σ' : L2.St) : Prop := σ'.length = σ.length ∧ ∀ j, j ∉ js → σ'[j]? = σ[j]?
def tG (K : PySem.W.Frag) (js : List Nat) (g : D → En → Tree En) : TG := fun v σ H Q => ∃ B F E d, Good F H ∧ RelE K B F H σ E ∧ Rep K F v d ∧ (g d E).all fun E' => ∀ σ', RelE K B F H σ' E' → But js σ σ' → Q σ' H
structure SG (X : Cx) (target : Expr) (js : List Nat) (g : D → En → Tree En) : Prop where
  pg : PG X target (tG X.K js g)
structure SGs (X : Cx) (ts : List Expr) (js : List Nat) (g : List D → En → Tree En) : Prop where
  pg : PGs X ts fun vs σ H Q => ∃ B F E ds, Good F H ∧ RelE X.K B F H σ E ∧ Reps X.K F vs ds ∧ (g ds E).all fun E' => ∀ σ', RelE X.K B F H σ' E' → But js σ σ' → Q σ' H
theorem But.mono {js ks : List Nat} {σ σ' : L2.St} (h : But js σ σ') (l : ∀ j ∈ js, j ∈ ks) : But ks σ σ' := ⟨h.1, fun j n => h.2 j fun m => n (l j m)⟩
theorem PG.weak {X : Cx} {e : Expr} {t t' : TG} (h : PG X e t) (w : ∀ v σ H Q, t' v σ H Q → t v σ H Q) : PG X e t' := ⟨fun pins s σ H v u Q I r q => h.run pins s σ H v u Q I r (w v σ H Q q)⟩
theorem PGs.weak {X : Cx} {e : List Expr} {t t' : TGs} (h : PGs X e t) (w : ∀ v σ H Q, t' v σ H Q → t v σ H Q) : PGs X e t' := ⟨fun pins s σ H v u Q I r q => h.run pins s σ H v u Q I r (w v σ H Q q)⟩
section
variable {X : Cx}
def gPut (i : Nat) : D → En → Tree En := fun d E => leaf (E.put i d)
theorem sg_name {i : Nat} {x : Str} {pos : Pos} (h : PG X (.Name x pos) (gName i)) : SG X (.Name x pos) [i] (gPut i) := ⟨PG.weak h fun v σ H Q ⟨B, F, E, d, g, r, p, q⟩ => q _ (r.put i p) ⟨by simp, fun j hj => List.getElem?_set_ne (fun z => hj (by rw [z]; exact List.mem_cons_self))⟩⟩
def gsNil : List D → En → Tree En := fun ds E => match ds with
  | [] => leaf E
  | _ => fail
def gsCons (g : D → En → Tree En) (h : List D → En → Tree En) : List D → En → Tree En := fun ds E => match ds with
  | d :: ds => (g d E).bind (h ds)
  | _ => fail
theorem sgs_nil : SGs X [] [] gsNil := ⟨PGs.weak pgs_nil fun vs σ H Q ⟨B, F, E, ds, g, r, p, q⟩ => by
  cases p with
  | nil => exact ⟨rfl, q σ r ⟨rfl, fun _ _ => rfl⟩⟩
  | cons _ _ => exact q.elim⟩
theorem sgs_cons {e : Expr} {es : List Expr} {g : D → En → Tree En} {h : List D → En → Tree En} {js ks : List Nat} (h1 : SG X e js g) (h2 : SGs X es ks h)
    (hs : (assignEach (e :: es) X.env).map (·.2) = assign e X.env :: (assignEach es X.env).map (·.2) := by rfl) : SGs X (e :: es) (js ++ ks) (gsCons g h) := ⟨PGs.weak (pgs_cons h1.pg h2.pg hs) fun vs σ H Q ⟨B, F, E, ds, gd, r, p, q⟩ => by
  cases p with
  | nil => exact q.elim
  | cons p ps => exact ⟨_, _, rfl, B, F, E, _, gd, r, p, Tree.all_mono (fun E' k σ' r' b' => ⟨B, F, E', _, gd, r', ps, Tree.all_mono (fun E2 k2 σ2 r2 b2 => k2 σ2 r2 ⟨b2.1.trans b'.1, fun j hj => (b2.2 j fun m => hj (List.mem_append_right _ m)).trans (b'.2 j fun m => hj (List.mem_append_left _ m))⟩) k⟩) (Tree.all_bind.mp q)⟩⟩
def gTp (n : Nat) (g : List D → En → Tree En) : D → En → Tree En := fun d E => match d with
  | .tup ds => if ds.length = n then g ds E else fail
  | _ => fail
theorem sg_tup {es : List Expr} {k : Nat} {pos : Pos} {g : List D → En → Tree En} {n : Nat} {js : List Nat} (hc : X.calm = true) (h : SGs X es js g) (hn : (assignEach es X.env).length = n := by rfl) (hst : (assignEach es X.env).findIdx? (·.1) = none := by rfl) : SG X (.Tuple es k pos) js (gTp n g) := ⟨PG.weak (pg_tup hc h.pg hn hst) fun v σ H Q ⟨B, F, E, d, gd, r, p, q⟩ => by
  cases d with
  | tup ds =>
    cases p with
    | tup hs rs =>
      have q : (if ds.length = n then g ds E else fail).all _ := q
      split at q
      · rename_i hl
        exact ⟨_, _, rfl, sqT_same gd.sub hs.sq, by rw [rs.length]; exact hl, B, F, E, ds, gd, r, rs, q⟩
      · exact q.elim
  | _ => exact False.elim q⟩
/-- target = value, any target -/
def oAsg (me : En → Tree D) (g : D → En → Tree En) : En → Tree Out := fun E => (me E).bind fun d => (g d E).bind fun E' => leaf (.nx E')
theorem s_asgG {st : Stmt} {te : TE} {tg : TG} {me : En → Tree D} {g : D → En → Tree En} {js : List Nat} (h : PS X st (tAsg te tg)) (w : ∀ σ H Q, tE X.K me σ H Q → te σ H Q) (wg : ∀ v σ H Q, tG X.K js g v σ H Q → tg v σ H Q) : SS X st (oAsg me g) := ⟨PS.weak h fun D0 σ H ⟨F0, H0, F, E, e, r, q⟩ =>
  w _ _ _ (exprIn e r (Tree.all_mono (fun d k v F' H' e' l r' p => wg _ _ _ _ ⟨B0 H0, F', E, d, e'.good, r', p, Tree.all_mono (fun E' k σ' r2 _ => k σ' F' H' e' l r2) (Tree.all_bind.mp k)⟩) (Tree.all_bind.mp q)))⟩

/-! ### for -/
def oLoop (g : D → En → Tree En) (m : En → Tree Out) : List D → En → Tree Out
  | [], E => leaf (.nx E)
  | d :: ds, E => (g d E).bind fun E' => (m E').bind fun o => match o with
      | .nx E'' => oLoop g m ds E''
      | .ct E'' => oLoop g m ds E''
      | .bk E'' => leaf (.nx E'')
      | .rt d => leaf (.rt d)
def oFor (mi : En → Tree (List D)) (g : D → En → Tree En) (m : En → Tree Out) : En → Tree Out := fun E => (mi E).bind fun ds => oLoop g m ds E
theorem s_for {tg iter : Expr} {body : List Stmt} {pos : Pos} {mi : En → Tree (List D)} {g : D → En → Tree En} {m : En → Tree Out} (hp : PassesOwn (model X.prog X.w) X.A X.env X.xe) (hc : X.calm = true) {js : List Nat} (hi : SI X tg iter mi) (hg : SG X tg js g) (hb : SSs X body m)
    (hs : ∀ x, foldedSetIterable iter X.env x = pure x := by intro _; rfl) : SS X (.For tg iter body [] pos) (oFor mi g m) := by
  obtain ⟨wi, h1, h2⟩ := hi.pi
  refine ⟨PS.weak (ps_for hp hc h1 hg.pg hb.ps hs) fun D0 σ H ⟨F0, H0, F, E, e, r, q⟩ => h2 σ H _ ?_⟩
  refine ⟨B0 H0, F, E, e.good, r, Tree.all_mono (fun ds k J F1 H1 e1 y => ?_) (Tree.all_bind.mp q)⟩
  refine ⟨fun i n σ H => n = ds.length - i ∧ ∃ F2 E, Ext F0 H0 F2 H ∧ F1.Le F2 ∧ RelE X.K (B0 H0) F2 H σ E ∧ (oLoop g m (ds.drop i) E).all (Post X.K F0 H0 F2 D0), ⟨ds.length, rfl, F1, E, e.trans e1, Fz.Le.refl _, r.ext e1, Tree.all_mono (fun o h => h.le e1.le) k⟩, ?_⟩
  rintro i n σ H ⟨rfl, F2, E, e2, l2, r2, q2⟩
  obtain ⟨y1, y2⟩ := y F2 H l2 e2.good i
  by_cases hi : i < ds.length
  · have hd : ds[i]? = some ds[i] := List.getElem?_eq_getElem hi
    obtain ⟨go, yl⟩ := y1 _ hd
    rw [List.drop_eq_getElem_cons hi] at q2
    refine .inr ⟨go, fun σ H => ∃ F2 E, Ext F0 H0 F2 H ∧ F1.Le F2 ∧ RelE X.K (B0 H0) F2 H σ E ∧ (oLoop g m (ds.drop (i + 1)) E).all (Post X.K F0 H0 F2 D0), fun σ' H' p => ⟨ds.length - (i + 1), by omega, rfl, p⟩, fun x H' yx => ?_⟩
    obtain ⟨F3, e3, rx⟩ := yl x H' yx
    refine ⟨B0 H0, F3, E, ds[i], e3.good, r2.ext e3, rx, Tree.all_mono (fun E' k σ' r' _ => ?_) (Tree.all_bind.mp q2)⟩
    refine ⟨F0, H0, F3, E', e2.trans e3, r', Tree.all_mono (fun o k => ?_) (Tree.all_bind.mp k)⟩
    have l3 : F2.Le F3 := e3.le
    cases o with
    | nx E'' => exact fun σ4 F4 H4 e4 l4 r4 => ⟨F4, E'', e4, l2.trans (l3.trans l4), r4, Tree.all_mono (fun o h => h.le (l3.trans l4)) k⟩
    | ct E'' => exact fun σ4 F4 H4 e4 l4 r4 => ⟨F4, E'', e4, l2.trans (l3.trans l4), r4, Tree.all_mono (fun o h => h.le (l3.trans l4)) k⟩
    | bk E'' => exact fun σ4 F4 H4 e4 l4 r4 => k σ4 F4 H4 e4 (l3.trans l4) r4
    | rt d => exact fun v F4 H4 e4 l4 r4 => k v F4 H4 e4 (l3.trans l4) r4
  · refine .inl ⟨y2 (by omega), ?_⟩
    rw [List.drop_eq_nil_of_le (by omega)] at q2
    exact q2 σ F2 H e2 (Fz.Le.refl _) r2
end

/-! ### a def -/
def En.start (n : Nat) (ds : List D) : En := ds.map (fun d => some ⟨false, d⟩) ++ List.replicate (n - ds.length) none
/-- np parameters, n names -/
def mDef (np n : Nat) (m : En → Tree Out) : List D → Tree D := fun ds => if ds.length = np then (m (En.start n ds)).bind fun o => match o with
    | .nx _ => leaf .non
    | .rt d => leaf d
    | _ => fail
  else fail
theorem rel_start {K : PySem.W.Frag} {B : Addr → Prop} {F : Fz} {H : Hp} {vs : List V} {ds : List D} (r : Reps K F vs ds) (N : List Str) : RelE K B F H (L2.start N vs) (En.start N.length ds) where
  len := by unfold L2.start En.start; simp [r.length]
  val := fun i d h => by
    unfold En.start at h
    unfold L2.start
    by_cases hi : i < ds.length
    · rw [List.getElem?_append_left (by simpa using hi), List.getElem?_map] at h
      cases e : ds[i]? with
      | none => rw [e] at h; cases h
      | some d' =>
        rw [e] at h; cases h
        obtain ⟨v, h1, h2⟩ := r.get' e
        refine ⟨v, ?_, h2⟩
        rw [List.getElem?_append_left (by rw [List.length_map, r.length]; exact hi), List.getElem?_map, h1]
        rfl
    · rw [List.getElem?_append_right (by simpa using hi), List.getElem?_replicate] at h
      split at h <;> cases h
  own := fun i d h => by
    unfold En.start at h
    by_cases hi : i < ds.length
    · rw [List.getElem?_append_left (by simpa using hi), List.getElem?_map] at h
      cases e : ds[i]? with
      | none => rw [e] at h; cases h
      | some d' => rw [e] at h; cases h
    · rw [List.getElem?_append_right (by simpa using hi), List.getElem?_replicate] at h
      split at h <;> cases h
  dist := fun i j d e a _ h => by
    unfold En.start at h
    by_cases hi : i < ds.length
    · rw [List.getElem?_append_left (by simpa using hi), List.getElem?_map] at h
      cases e : ds[i]? with
      | none => rw [e] at h; cases h
      | some d' => rw [e] at h; cases h
    · rw [List.getElem?_append_right (by simpa using hi), List.getElem?_replicate] at h
      split at h <;> cases h
/-- what a def promises: its plain function -/
def spF (K : PySem.W.Frag) (f : List D → Tree D) : Sp := fun vs H Q _ => ∃ F ds, Good F H ∧ Reps K F vs ds ∧ (f ds).all fun d => ∀ v F' H', Ext F H F' H' → Rep K F' v d → Q v H'
theorem spF_len {K : PySem.W.Frag} {np n : Nat} {m : En → Tree Out} : ∀ vs H Q E, spF K (mDef np n m) vs H Q E → vs.length = np := fun vs H Q E ⟨F, ds, g, r, q⟩ => by
  unfold mDef at q
  split at q
  · rename_i h; rw [r.length]; exact h
  · exact q.elim
section
variable {P : Program} {w : World} {K : PySem.W.Frag} {mg : Str → Option Value} {base : Heap}
theorem def_ok {x qual : Str} {st : Stmt} {f : Addr} {fd : FuncData} {N ps : List Str} {k : Nat} {m : En → Tree Out} (np n : Nat) (F : Fun K x qual st f fd) (S : FnScope N ps (defScope st)) (hn : N.length = n) (hp : ps.length = np)
    (hbody : ∀ (cdv : Value) (A : Around) (outer : List Env) (s : Shared) (H : Hp) (E : XK), Room k (A.deeper (envOfC qual (defScope st) s.heap.objs.size f cdv)) →
      SSs (cxOf CX0 P w K mg base N qual (defScope st) f cdv A outer s H E).nox (defBody st) m) : FnOk P w K mg base CX0 (k + 1) f fd ps (spF K (mDef np n m)) := by
  subst hn hp
  refine F.ok S (fun vs H Q E h => spF_len vs H Q E h) (fun cdv A outer s H vs Q E hr h => ?_)
  obtain ⟨F, ds, g, r, q⟩ := h
  refine ⟨_, (hbody cdv A outer s H E hr).ps, F, H, F, En.start N.length ds, Ext.refl g, rel_start r N, ?_⟩
  unfold mDef at q
  split at q
  · refine Tree.all_mono (fun o k => ?_) (Tree.all_bind.mp q)
    cases o with
    | nx E => exact fun σ' F' H' e l r => k .non F' H' e .non
    | rt d => exact fun v F' H' e l r => k v F' H' e r
    | bk E => exact False.elim k
    | ct E => exact False.elim k
  · exact q.elim
end
section
variable {X : Cx} {k : Nat} {f : Addr} {fd : FuncData} {ps : List Str} {fn : List D → Tree D} {x : Str} {p pos : Pos} {e : Expr} {es : List Expr} {ma : En → Tree (List D)}
theorem se_call (F : FnOk X.prog X.w X.K X.mg X.base CX0 k f fd ps (spF X.K fn)) (hr : Room k X.A) (hg : Gl X x) (hm : X.mg x = some (.ref f)) (hk : PySem.W.keepIn X.K (.ref f) = true) (hb : Binds X.K fd ps [])
    (ha : SA X (e :: es) ma) (hdb : (x == ("__debug__" : Str)) = false := by decide) (he : starEach (e :: es) X.env = (false, eval e X.env) :: starEach es X.env := by rfl) (hpl : (backTo pos (starEach es X.env)).any (·.1) = false := by rfl) :
    SE X (.Call (.Name x p) (e :: es) [] pos) (mA fn ma) := by
  refine ⟨PE.weak (pe_call F hr hg hm hk hb .nil pass0 ha.pa hdb he hpl) fun σ H Q ⟨B, F, E, g, rl, q⟩ => ?_⟩
  refine ⟨B, F, E, g, rl, Tree.all_mono (fun ds k vs F1 H1 e1 p1 => ?_) (Tree.all_bind.mp q)⟩
  show spF X.K fn (vs ++ []) H1 Q E0
  rw [List.append_nil]
  exact ⟨F1, ds, e1.good, p1, Tree.all_mono (fun z kz w F2 H2 e2 rz => kz w F2 H2 (e1.trans e2) rz) k⟩
end
end R

set_option Elab.async false
set_option linter.all false
set_option maxRecDepth 100000
namespace R
open PySem PySem.Spec PyProof.Rows L2
open Tree (leaf fail)
/-! ### comprehensions -/
def wipeE (E : En) : List Nat → En
  | [] => E
  | v :: vs => (wipeE E vs).set v none
theorem RelE.wipe {K : PySem.W.Frag} {B : Addr → Prop} {F : Fz} {H : Hp} {σ : L2.St} {E : En} (r : RelE K B F H σ E) : ∀ vs : List Nat, RelE K B F H (L2.wipe σ vs) (wipeE E vs)
  | [] => r
  | v :: vs => (RelE.wipe r vs).drop v none
theorem wipe_in {σ : L2.St} {i : Nat} : ∀ {vs : List Nat}, i ∈ vs → i < σ.length → (L2.wipe σ vs)[i]? = some none
  | v :: vs, h, hl => by
    unfold L2.wipe
    by_cases e : v = i
    · subst e; exact List.getElem?_set_self (by rw [wipe_length]; exact hl)
    · rw [List.getElem?_set_ne e]
      rcases List.mem_cons.mp h with z | z
      · exact absurd z.symm e
      · exact wipe_in z hl
theorem wipe_but {σ σ' : L2.St} {vs : List Nat} (h : But vs σ σ') : L2.wipe σ' vs = L2.wipe σ vs := by
  have hl := h.1
  refine List.ext_getElem? fun i => ?_
  by_cases m : i ∈ vs
  · by_cases q : i < σ.length
    · rw [wipe_in m q, wipe_in m (by omega)]
    · rw [List.getElem?_eq_none (by rw [wipe_length]; omega), List.getElem?_eq_none (by rw [wipe_length]; omega)]
  · rw [wipe_out m, wipe_out m]; exact h.2 i m
theorem wipe_wipe {σ : L2.St} {vs : List Nat} : L2.wipe (L2.wipe σ vs) vs = L2.wipe σ vs := wipe_but ⟨wipe_length σ vs, fun i m => wipe_out m⟩
def lcLoop (g : D → En → Tree En) (mt : En → Tree Bool) (me : En → Tree D) (E : En) : List D → Tree (List D)
  | [] => leaf []
  | d :: ds => (g d E).bind fun E' => (mt E').bind fun b => if b = true then (me E').bind fun y => (lcLoop g mt me E ds).bind fun r => leaf (y :: r) else lcLoop g mt me E ds
def mLc (mi : En → Tree (List D)) (vs : List Nat) (g : D → En → Tree En) (mt : En → Tree Bool) (me : En → Tree D) : En → Tree (List D) := fun E => (mi E).bind fun ds => lineOk ds.length (lcLoop g mt me (wipeE E vs) ds)
/-- a clause's tests -/
structure STs (X : Cx) (ifs : List Expr) (m : En → Tree Bool) : Prop where
  pts : PTs X ifs (tT X.K m)
def tYesM : En → Tree Bool := fun _ => leaf true
section
variable {X : Cx}
theorem PTs.weak {es : List Expr} {t t' : TT} (h : PTs X es t) (w : ∀ σ H Q, t' σ H Q → t σ H Q) : PTs X es t' := ⟨fun pins s σ H Q I q => h.run pins s σ H Q I (w σ H Q q)⟩
theorem sts_nil : STs X [] tYesM := ⟨PTs.weak pts_nil fun σ H Q ⟨B, F, E, g, r, q⟩ => q F H (Ext.refl g)⟩
theorem sts_one {c : Expr} {m : En → Tree Bool} (h : ST X c m) : STs X [c] m := ⟨pts_one h.pt⟩
theorem lc_w {K : PySem.W.Frag} {wi : TI} {mi : En → Tree (List D)} {js vs : List Nat} {g : D → En → Tree En} {mt : En → Tree Bool} {me : En → Tree D} {σ : L2.St} {H : Hp} {Q : VK}
    (h2 : ∀ σ H R, (∃ B F E, Good F H ∧ RelE K B F H σ E ∧ (mi E).all fun ds => ∀ J F' H', Ext F H F' H' → Yld K J (fun F2 H2 => Ext F' H' F2 H2) ds → R J H') → wi σ H R) (hj : ∀ j ∈ js, j ∈ vs)
    (h : tL K (mLc mi vs g mt me) σ H Q) : tLc wi (tG K js g) (tT K mt) (tE K me) vs σ H Q := by
  obtain ⟨B, F, E, gd, rl, q⟩ := h
  refine h2 σ H _ ⟨B, F, E, gd, rl, Tree.all_mono (fun ds k J F1 H1 e1 y => ?_) (Tree.all_bind.mp q)⟩
  obtain ⟨hz, k⟩ := lineOk_all k
  intro L hL
  -- the new list
  have g1 : Good F1 (upd H1 L (.lst [])) := e1.good.new hL
  have n1 := e1.good.free hL
  have e2 : Ext F1 H1 F1 (upd H1 L (.lst [])) := Ext.new e1.good hL
  refine ⟨fun i n H' => n = ds.length - i ∧ ∃ F' acc xs, Ext F1 H1 F' H' ∧ H' L = some (.lst xs) ∧ F'.P L = none ∧ ¬ F'.T L ∧ Reps K F' xs acc ∧ acc.length ≤ i ∧
    ((lcLoop g mt me (wipeE E vs) (ds.drop i)).all fun r => ∀ a xs F'' H'', Ext F H F'' H'' → H'' a = some (.lst xs) → F''.P a = none → ¬ F''.T a → NT H a → Reps K F'' xs (acc ++ r) → Q (.ref a) H''),
    ⟨ds.length, rfl, F1, [], [], e2, upd_same, n1.1, n1.2, .nil, Nat.zero_le _, k⟩, ?_⟩
  rintro i n H' ⟨rfl, F', acc, xs, e', hL', np, nt, ra, hai, q'⟩
  obtain ⟨y1, y2⟩ := y F' H' e' e'.good i
  have h0 : NT H L := ext_none gd e1 hL
  by_cases hi : i < ds.length
  · have hd : ds[i]? = some ds[i] := List.getElem?_eq_getElem hi
    obtain ⟨go, yl⟩ := y1 _ hd
    rw [List.drop_eq_getElem_cons hi] at q'
    refine .inr ⟨go, fun H3 => ∃ F' acc xs, Ext F1 H1 F' H3 ∧ H3 L = some (.lst xs) ∧ F'.P L = none ∧ ¬ F'.T L ∧ Reps K F' xs acc ∧ acc.length ≤ i + 1 ∧
      ((lcLoop g mt me (wipeE E vs) (ds.drop (i + 1))).all fun r => ∀ a xs F'' H'', Ext F H F'' H'' → H'' a = some (.lst xs) → F''.P a = none → ¬ F''.T a → NT H a → Reps K F'' xs (acc ++ r) → Q (.ref a) H''),
      fun H3 p => ⟨ds.length - (i + 1), by omega, rfl, p⟩, fun x H3 yx => ?_⟩
    obtain ⟨F3, e3, rx⟩ := yl x H3 yx
    have er := (e1.trans e').trans e3
    obtain ⟨hL3, np3, nt3⟩ := own_ext e3 hL' np nt
    refine ⟨B, F3, wipeE E vs, ds[i], e3.good, (rl.ext er).wipe vs, rx, Tree.all_mono (fun E' k σ' r' b' => ?_) (Tree.all_bind.mp q')⟩
    have hw : L2.wipe σ' vs = L2.wipe σ vs := by
      rw [wipe_but (b'.mono hj)]
      exact wipe_wipe
    refine ⟨hw, B, F3, E', e3.good, r', Tree.all_mono (fun b k F4 H4 e4 => ?_) (Tree.all_bind.mp k)⟩
    obtain ⟨hL4, np4, nt4⟩ := own_ext e4 hL3 np3 nt3
    cases b with
    | false =>
      rw [if_neg Bool.false_ne_true] at k ⊢
      exact ⟨F4, acc, xs, (e'.trans e3).trans e4, hL4, np4, nt4, ra.mono (e3.le.trans e4.le), by omega, k⟩
    | true =>
      rw [if_pos rfl] at k ⊢
      refine ⟨B, F4, E', e4.good, r'.ext e4, Tree.all_mono (fun d k y F5 H5 e5 ry => ?_) (Tree.all_bind.mp k)⟩
      obtain ⟨hL5, np5, nt5⟩ := own_ext e5 hL4 np4 nt4
      refine ⟨xs, hL5, by rw [ra.length]; omega, F5, acc ++ [d], xs ++ [y], (((e'.trans e3).trans e4).trans e5).write np5 nt5 (.none hL) ⟨_, hL5⟩, upd_same, np5, nt5, (ra.mono ((e3.le.trans e4.le).trans e5.le)).append (.cons ry .nil), by rw [List.length_append]; show acc.length + 1 ≤ i + 1; omega, ?_⟩
      refine Tree.all_mono (fun r k => ?_) (Tree.all_bind.mp k)
      intro a zs F'' H'' e'' z1 z2 z3 z4 z5
      exact k a zs F'' H'' e'' z1 z2 z3 z4 (by rw [List.append_assoc] at z5; exact z5)
  · refine .inl ⟨y2 (by omega), ?_⟩
    rw [List.drop_eq_nil_of_le (by omega)] at q'
    have q' := q' L xs F' H' (e1.trans e') hL' np nt h0
    rw [List.append_nil] at q'
    exact q' ra
/-- [elt for tg in iter if ..] -/
theorem sl_lc {elt tg iter : Expr} {ifs : List Expr} {scope : Scope} {own : List (Str × Nat)} {pos : Pos} {mi : En → Tree (List D)} {js : List Nat} {g : D → En → Tree En} {mt : En → Tree Bool} {me : En → Tree D}
    (hc : X.calm = true) (hN : X.N.Nodup) (hi : SIp X tg iter mi) (ok : BlkOk X.N X.env.scope scope own)
    (hg : ∀ (s : Shared) (H : Hp) (C : Addr) (cl : List (Str × Addr)) (fp : List Addr), SG (X.blk s H scope (compEnvC scope cl C X.env) fp) tg js g) (ht : ∀ (s : Shared) (H : Hp) (C : Addr) (cl : List (Str × Addr)) (fp : List Addr), STs (X.blk s H scope (compEnvC scope cl C X.env) fp) ifs mt)
    (he : ∀ (s : Shared) (H : Hp) (C : Addr) (cl : List (Str × Addr)) (fp : List Addr), SE (X.blk s H scope (compEnvC scope cl C X.env) fp) elt me) (hj : ∀ j ∈ js, j ∈ own.map (·.2)) (hs : ∀ x, foldedSetIterable iter X.env x = pure x := by intro _; rfl) :
    SL X (.ListComp elt [⟨tg, iter, ifs, 0⟩] scope pos) (mLc mi (own.map (·.2)) g mt me) := by
  obtain ⟨wi, h1, h2⟩ := hi.pi
  exact ⟨PE.weak (pe_lc hc hN h1 ok (fun s H C cl fp => (hg s H C cl fp).pg) (fun s H C cl fp => (ht s H C cl fp).pts) (fun s H C cl fp => (he s H C cl fp).pe) hs) fun σ H Q h => lc_w h2 hj h⟩
/-- name = [..] on one line -/
theorem ps_lc {i : Nat} {y : Str} {py : Pos} {elt tg iter : Expr} {ifs : List Expr} {scope : Scope} {own : List (Str × Nat)} {pos spos : Pos} {mi : En → Tree (List D)} {js : List Nat} {g : D → En → Tree En} {mt : En → Tree Bool} {me : En → Tree D}
    (hc : X.calm = true) (hN : X.N.Nodup) (hy : X.N[i]? = some y) (hyl : X.env.scope.names.lookup y = some .local)
    (hsw : swapsWith (.ListComp elt [⟨tg, iter, ifs, 0⟩] scope pos) (some (.Name y py)) spos.line X.env = pure true) (hi : SIp X tg iter mi) (ok : BlkOk X.N X.env.scope scope own)
    (hg : ∀ (s : Shared) (H : Hp) (C : Addr) (cl : List (Str × Addr)) (fp : List Addr), SG (X.blk s H scope (compEnvC scope cl C X.env) fp) tg js g) (ht : ∀ (s : Shared) (H : Hp) (C : Addr) (cl : List (Str × Addr)) (fp : List Addr), STs (X.blk s H scope (compEnvC scope cl C X.env) fp) ifs mt)
    (he : ∀ (s : Shared) (H : Hp) (C : Addr) (cl : List (Str × Addr)) (fp : List Addr), SE (X.blk s H scope (compEnvC scope cl C X.env) fp) elt me) (hj : ∀ j ∈ js, j ∈ own.map (·.2)) (hs : ∀ x, foldedSetIterable iter X.env x = pure x := by intro _; rfl) :
    ∃ te, PS X (.Assign [.Name y py] (.ListComp elt [⟨tg, iter, ifs, 0⟩] scope pos) spos) (tAsg te (gName i)) ∧ ∀ σ H Q, tL X.K (mLc mi (own.map (·.2)) g mt me) σ H Q → te σ H Q := by
  obtain ⟨wi, h1, h2⟩ := hi.pi
  exact ⟨_, ps_setLc hc hN hy hyl hsw h1 ok (fun s H C cl fp => (hg s H C cl fp).pg) (fun s H C cl fp => (ht s H C cl fp).pts) (fun s H C cl fp => (he s H C cl fp).pe) hs, fun σ H Q h => lc_w h2 hj h⟩
theorem tL_of_E {K : PySem.W.Frag} {ml : En → Tree (List D)} {σ : L2.St} {H : Hp} {Q : VK} (h : tE K (mList ml) σ H Q) : tL K ml σ H Q := by
  obtain ⟨B, F, E, g, r, q⟩ := h
  exact ⟨B, F, E, g, r, Tree.all_mono (fun ds k a xs F' H' e h' n t h0 rp => k (.ref a) (F'.add a (.lst xs)) H' (e.freeze h' n t h0) (.lst upd_same (rp.mono (Fz.le_add n)))) (Tree.all_bind.mp q)⟩
theorem s_ownLc {st : Stmt} {i : Nat} {ml : En → Tree (List D)} (h : ∃ te, PS X st (tAsg te (gName i)) ∧ ∀ σ H Q, tL X.K ml σ H Q → te σ H Q) : SS X st (oOwn i ml) := by
  obtain ⟨te, h1, h2⟩ := h
  exact s_own h1 h2
theorem s_setLc {st : Stmt} {i : Nat} {ml : En → Tree (List D)} (h : ∃ te, PS X st (tAsg te (gName i)) ∧ ∀ σ H Q, tL X.K ml σ H Q → te σ H Q) : SS X st (oSet i (mList ml)) := by
  obtain ⟨te, h1, h2⟩ := h
  exact s_asg h1 fun σ H Q h => h2 σ H Q (tL_of_E h)
end
end R

set_option Elab.async false
set_option linter.all false
set_option maxRecDepth 100000
namespace R
open PySem PySem.Spec PyProof.Rows L2
open Tree (leaf fail)
theorem OpR.or {X : Cx} {f : Value → Value → Sem Value} {r r' : R2} (h : OpR X f r) (h' : OpR X f r') : OpR X f (fun x y H Q => r x y H Q ∨ r' x y H Q) := by
  intro pins s σ H x y v u Q I rx ry q
  rcases q with q | q
  · exact h pins s σ H x y v u Q I rx ry q
  · exact h' pins s σ H x y v u Q I rx ry q
section
variable {X : Cx} {K : PySem.W.Frag}

/-! ### + -/
def opAdd : D → D → Tree D
  | .int i, .int j => leaf (.int (i + j))
  | .lst xs, .lst ys => lineOk (xs.length + ys.length) (leaf (.lst (xs ++ ys)))
  | .tup xs, .tup ys => lineOk (xs.length + ys.length) (leaf (.tup (xs ++ ys)))
  | .str x, .str y => lineOk (x.length + y.length) (leaf (.str (x ++ y)))
  | _, _ => fail
def rStrAdd : R2 := fun x y H Q => ∃ i j, x = .str i ∧ y = .str j ∧ i.length + j.length ≤ sizeLine ∧ Q (.str (i ++ j)) H
def rAddAll (K : PySem.W.Frag) : R2 := fun x y H Q => rI0 (fun i j => .int (i + j)) x y H Q ∨ rCat x y H Q ∨ rCatA K x y H Q ∨ rStrAdd x y H Q
theorem or_add : OpR X (binaryOp .Add) (rAddAll X.K) := OpR.or op_add (OpR.or op_cat (OpR.or op_catA op_add_str))
theorem o2_add : Op2 K (rAddAll K) opAdd := by
  intro F H v u d e Q g p1 p2 q
  unfold opAdd at q
  split at q
  · cases p1.int; cases p2.int
    exact .inl ⟨_, _, rfl, rfl, q _ F H (Ext.refl g) (.int _)⟩
  · obtain ⟨hl, q⟩ := lineOk_all q
    obtain ⟨a, xs, rfl, h1, r1⟩ := p1.lst g
    obtain ⟨b, ys, rfl, h2, r2⟩ := p2.lst g
    refine .inr (.inl ⟨a, b, xs, ys, rfl, rfl, h1, h2, by rw [r1.length, r2.length]; exact hl, fun p hp => ?_⟩)
    exact q _ (F.add p (.lst (xs ++ ys))) _ (Ext.addNew g hp) (.lst upd_same ((r1.append r2).mono (Fz.le_add (g.free hp).1)))
  · obtain ⟨hl, q⟩ := lineOk_all q
    obtain ⟨a, xs, rfl, h1, r1⟩ := p1.tup g
    obtain ⟨b, ys, rfl, h2, r2⟩ := p2.tup g
    have n1 : ∀ {c : Addr} {zs : List V} {ds : List D}, Pk K F H (.ref c) (.tup ds) → Rep K F (.ref c) (.tup ds) := fun {c zs ds} h => by cases h with | rep r => exact r
    refine .inr (.inr (.inl ⟨a, b, xs, ys, rfl, rfl, h1, h2, by rw [r1.length, r2.length]; exact hl, fun ex => ?_, fun ex ey => ?_, fun ex ey p hp => ?_⟩))
    · subst ex; cases r1
      exact q _ F H (Ext.refl g) (n1 (zs := []) p2)
    · subst ey; cases r2
      rw [List.append_nil] at q
      exact q _ F H (Ext.refl g) (n1 (zs := []) p1)
    · exact q _ (F.add p (.tup (xs ++ ys))) _ (Ext.addNew g hp) (.tup (.of upd_same) ((r1.append r2).mono (Fz.le_add (g.free hp).1)))
  · obtain ⟨hl, q⟩ := lineOk_all q
    cases p1.str; cases p2.str
    exact .inr (.inr (.inr ⟨_, _, rfl, rfl, hl, q _ F H (Ext.refl g) (.str _)⟩))
  · exact q.elim

/-! ### ints -/
def opI (c : Int → Int → Bool) (f : Int → Int → Int) : D → D → Tree D
  | .int i, .int j => if c i j = true then leaf (.int (f i j)) else fail
  | _, _ => fail
theorem o2_int {C : Int → Int → Prop} {c : Int → Int → Bool} {f : Int → Int → Int} (h : ∀ i j, c i j = true → C i j) : Op2 K (rI C fun i j => .int (f i j)) (opI c f) := by
  intro F H v u d e Q g p1 p2 q
  unfold opI at q
  split at q
  · split at q
    · cases p1.int; cases p2.int
      exact ⟨_, _, rfl, rfl, h _ _ (by assumption), q _ F H (Ext.refl g) (.int _)⟩
    · exact q.elim
  · exact q.elim
def opSub : D → D → Tree D
  | .int i, .int j => leaf (.int (i - j))
  | _, _ => fail
theorem o2_sub : Op2 K (rI0 fun i j => .int (i - j)) opSub := by
  intro F H v u d e Q g p1 p2 q
  unfold opSub at q
  split at q
  · cases p1.int; cases p2.int
    exact ⟨_, _, rfl, rfl, q _ F H (Ext.refl g) (.int _)⟩
  · exact q.elim
def mulB (i j : Int) : Bool := decide (i.natAbs.log2 + j.natAbs.log2 < 1000000)
def divB (i j : Int) : Bool := decide (0 < j) && decide (j.natAbs.log2 < 9000)
def powB (i j : Int) : Bool := decide (0 ≤ j) && decide (j ≤ 1000000) && decide (i.natAbs < 2 ^ 64)
def opDiv : D → D → Tree D := opI divB fun i j => i / j
def opMod : D → D → Tree D := opI (fun _ j => decide (0 < j)) fun i j => i % j
def opPow : D → D → Tree D := opI powB fun i j => i ^ j.toNat
theorem o2_div : Op2 K (rI CDivW fun i j => .int (i / j)) opDiv := o2_int fun i j h => by
  unfold divB at h
  rw [Bool.and_eq_true, decide_eq_true_eq, decide_eq_true_eq] at h
  exact h
theorem o2_mod : Op2 K (rI (fun _ j => 0 < j) fun i j => .int (i % j)) opMod := o2_int fun i j h => by simpa using h
theorem o2_pow : Op2 K (rI CPow fun i j => .int (i ^ j.toNat)) opPow := o2_int fun i j h => by
  unfold powB at h
  simp only [Bool.and_eq_true, decide_eq_true_eq] at h
  exact ⟨h.1.1, h.1.2, h.2⟩

/-! ### * -/
def repOk (n : Nat) (k : Int) : Bool := decide (-(2 ^ 63) ≤ k) && decide (k < 2 ^ 63) && decide (n * k.toNat ≤ sizeLine)
/-- t * 1 is t -/
theorem tuple_mul1 (l : Addr) (items : Array Value) (n : Nat) (dd : Option Addr) (sl : Array (Option Value)) (u : Tok) :
    Meets (Builtin.«tuple.__mul__» ⟨[.ref l, .int 1 u], []⟩) (fun _ R s => s.heap.get? l = some { cls := .type "tuple", dict := dd, data := .seq items n, slots := sl } ∧ R (.ok (.ret (Value.ref l))) s) :=
  .of_wp fun prog w A R s h => by
    obtain ⟨hp, g, d, tk, os⟩ := s
    obtain ⟨hl, h⟩ := h
    have f1 := AutoSeq1.idx_int
    wp_walk using wpAny_loadPart' hl
    repeat (first
      | (refine wpAny_ite_false (decide_eq_false (by decide)) ?_; wp_walk using wpAny_loadPart' hl)
      | (refine wpAny_ite_true (decide_eq_true (by simp)) ?_; wp_walk using wpAny_loadPart' hl))
    exact ⟨_, rfl, h⟩
def rRepT1 (K : PySem.W.Frag) : R2 := fun x y H Q => ∃ l xs, x = .ref l ∧ y = .int 1 ∧ SqT K H l xs ∧ Q (.ref l) H
theorem op_repT1 : OpR X (binaryOp .Mult) (rRepT1 X.K) := by
  intro pins s σ H x y v u Q I rx ry h
  obtain ⟨l, xs, rfl, rfl, hT, q⟩ := h
  cases rx
  obtain ⟨t, rfl⟩ := ry
  obtain ⟨its, r, ⟨⟨cls, dd, data, sl⟩, ho, hc, n, hd⟩, hs⟩ := I.tuple hT
  simp only at hc hd
  subst hc hd
  refine wpAny_binaryOp_repeat_ref (T := "tuple") (U := "int") (by decide) ⟨_, ho, rfl⟩ (fun s' => typeIs_int s' 1 t) noFill_tuple_mul F.fills_int_mul F.slot_int_rmul repeat_tuple F.slot_int_index.lookup
    (call_meets F.slot_int_rmul (typeIs_int s 1 t) F.entry_int_rmul (F.args_int_rmul_2 _ _) (int_rmul_tuple 1 t l its.toArray n dd sl)
      ⟨ho, rfl, ⟨_, ho, rfl⟩, call_meets F.slot_tuple_mul ⟨_, ho, rfl⟩ F.entry_tuple_mul (F.args_tuple_mul_2 _ _) (tuple_mul1 l its.toArray n dd sl t) ⟨ho, ?_⟩⟩)
  exact ⟨.ref l, H, I, rfl, q⟩
/-- t * k is empty for k ≤ 0 -/
theorem tuple_mul0 (l : Addr) (items : Array Value) (n : Nat) (dd : Option Addr) (sl : Array (Option Value)) (x : Int) (u : Tok) (c0 : (decide (x < -(2 ^ 63)) || decide (x ≥ 2 ^ 63)) = false) (c1 : (items.isEmpty || x == 1) = false) (c2 : (decide (x ≤ 0) || items.isEmpty) = true) :
    Meets (Builtin.«tuple.__mul__» ⟨[.ref l, .int x u], []⟩) (fun _ R s => s.heap.get? l = some { cls := .type "tuple", dict := dd, data := .seq items n, slots := sl } ∧
      R (.ok (.ret (Value.ref s.heap.objs.size))) { s with heap := s.heap.push { cls := Value.type "tuple", data := Data.seq #[] }, toks := s.toks }) :=
  .of_wp fun prog w A R s h => by
    obtain ⟨hp, g, d, tk, os⟩ := s
    obtain ⟨hl, h⟩ := h
    have f1 := AutoSeq1.idx_int
    wp_walk using wpAny_loadPart' hl
    repeat (first
      | (refine wpAny_ite_false (decide_eq_false (by rw [c0]; exact Bool.false_ne_true)) ?_; wp_walk using wpAny_loadPart' hl)
      | (refine wpAny_ite_false (decide_eq_false (by rw [c1]; exact Bool.false_ne_true)) ?_; wp_walk using wpAny_loadPart' hl)
      | (refine wpAny_ite_true (decide_eq_true c2) ?_; wp_walk using wpAny_loadPart' hl))
    exact ⟨_, rfl, h⟩
def rRepT0 (K : PySem.W.Frag) : R2 := fun x y H Q => ∃ l k xs, x = .ref l ∧ y = .int k ∧ SqT K H l xs ∧ xs ≠ [] ∧ k ≤ 0 ∧ -(2 ^ 62) ≤ k ∧ ∀ p, H p = none → Q (.ref p) (upd H p (.tup []))
theorem op_repT0 : OpR X (binaryOp .Mult) (rRepT0 X.K) := by
  intro pins s σ H x y v u Q I rx ry h
  obtain ⟨l, k, xs, rfl, rfl, hT, hne, h1, h2, q⟩ := h
  cases rx
  obtain ⟨t, rfl⟩ := ry
  obtain ⟨its, r, ⟨⟨cls, dd, data, sl⟩, ho, hc, n, hd⟩, hs⟩ := I.tuple hT
  simp only at hc hd
  subst hc hd
  have hle : its.length = xs.length := r.length.symm
  have hn : its ≠ [] := fun e => hne (by
    rw [e] at hle
    exact List.eq_nil_of_length_eq_zero hle.symm)
  have hi : its.toArray.isEmpty = false := by
    cases its with
    | nil => exact absurd rfl hn
    | cons a b => rfl
  have c0 : (decide (k < -(2 ^ 63)) || decide (k ≥ 2 ^ 63)) = false := by
    rw [decide_eq_false (by omega), decide_eq_false (by omega)] <;> rfl
  have c1 : (its.toArray.isEmpty || k == 1) = false := by
    rw [hi, Bool.false_or]
    exact beq_eq_false_iff_ne.mpr (by omega)
  have c2 : (decide (k ≤ 0) || its.toArray.isEmpty) = true := by
    rw [hi, Bool.or_false]
    exact decide_eq_true (by omega)
  refine wpAny_binaryOp_repeat_ref (T := "tuple") (U := "int") (by decide) ⟨_, ho, rfl⟩ (fun s' => typeIs_int s' k t) noFill_tuple_mul F.fills_int_mul F.slot_int_rmul repeat_tuple F.slot_int_index.lookup
    (call_meets F.slot_int_rmul (typeIs_int s k t) F.entry_int_rmul (F.args_int_rmul_2 _ _) (int_rmul_tuple k t l its.toArray n dd sl)
      ⟨ho, rfl, ⟨_, ho, rfl⟩, call_meets F.slot_tuple_mul ⟨_, ho, rfl⟩ F.entry_tuple_mul (F.args_tuple_mul_2 _ _) (tuple_mul0 l its.toArray n dd sl k t c0 c1 c2) ⟨ho, ?_⟩⟩)
  refine ⟨.ref s.heap.objs.size, _, I.laid (t' := s.toks) (o := .tup []) (fun b ob q => Heap.get?_push_of_some _ q) (Nat.le_refl _) ?_, rfl, q _ (I.hok.fresh (Nat.le_refl _))⟩
  exact ⟨by simp, [], .nil, IsTup.new _ _⟩
def opMul : D → D → Tree D
  | .int i, .int j => if mulB i j = true then leaf (.int (i * j)) else fail
  | .lst xs, .int k => if repOk xs.length k = true then leaf (.lst (List.replicate k.toNat xs).flatten) else fail
  | .tup xs, .int k => if k = 1 then leaf (.tup xs) else if (!xs.isEmpty && decide (2 ≤ k) && decide (k ≤ 1000) && decide (xs.length ≤ 1000)) = true then leaf (.tup (List.replicate k.toNat xs).flatten) else if (!xs.isEmpty && decide (k ≤ 0) && decide (-(2 ^ 62) ≤ k)) = true then leaf (.tup []) else fail
  | _, _ => fail
def rMulAll (K : PySem.W.Frag) : R2 := fun x y H Q => rI CMulW (fun i j => .int (i * j)) x y H Q ∨ rRep x y H Q ∨ rRepT1 K x y H Q ∨ rRepT K x y H Q ∨ rRepT0 K x y H Q
theorem or_mul : OpR X (binaryOp .Mult) (rMulAll X.K) := OpR.or op_mulW (OpR.or op_rep (OpR.or op_repT1 (OpR.or op_repT op_repT0)))
theorem o2_mul : Op2 K (rMulAll K) opMul := by
  intro F H v u d e Q g p1 p2 q
  unfold opMul at q
  split at q
  · split at q
    · rename_i h
      cases p1.int; cases p2.int
      exact .inl ⟨_, _, rfl, rfl, (show _ < _ from of_decide_eq_true h), q _ F H (Ext.refl g) (.int _)⟩
    · exact q.elim
  · split at q
    · rename_i h
      unfold repOk at h
      simp only [Bool.and_eq_true, decide_eq_true_eq] at h
      obtain ⟨a, xs, rfl, h1, r1⟩ := p1.lst g
      cases p2.int
      refine .inr (.inl ⟨a, _, xs, rfl, rfl, h1, h.1.1, h.1.2, by rw [r1.length]; exact h.2, fun p hp => ?_⟩)
      exact q _ (F.add p (.lst _)) _ (Ext.addNew g hp) (.lst upd_same ((r1.rep _).mono (Fz.le_add (g.free hp).1)))
    · exact q.elim
  · split at q
    · rename_i h
      subst h
      obtain ⟨a, xs, rfl, h1, r1⟩ := p1.tup g
      cases p2.int
      refine .inr (.inr (.inl ⟨a, xs, rfl, rfl, h1, ?_⟩))
      cases p1 with | rep r => exact q _ F H (Ext.refl g) r
    · split at q
      · rename_i h
        simp only [Bool.and_eq_true, decide_eq_true_eq, Bool.not_eq_true'] at h
        obtain ⟨a, xs, rfl, h1, r1⟩ := p1.tup g
        cases p2.int
        refine .inr (.inr (.inr (.inl ⟨a, _, xs, rfl, rfl, h1, fun z => ?_, h.1.1.2, h.1.2, by rw [r1.length]; exact h.2, fun p hp => ?_⟩)))
        · subst z; cases r1; simp at h
        · exact q _ (F.add p (.tup _)) _ (Ext.addNew g hp) (.tup (.of upd_same) ((r1.rep _).mono (Fz.le_add (g.free hp).1)))
      · split at q
        · rename_i h
          simp only [Bool.and_eq_true, decide_eq_true_eq, Bool.not_eq_true'] at h
          obtain ⟨a, xs, rfl, h1, r1⟩ := p1.tup g
          cases p2.int
          refine .inr (.inr (.inr (.inr ⟨a, _, xs, rfl, rfl, h1, fun z => ?_, h.1.2, h.2, fun p hp => ?_⟩)))
          · subst z; cases r1; simp at h
          · exact q _ (F.add p (.tup _)) _ (Ext.addNew g hp) (.tup (.of upd_same) .nil)
        · exact q.elim
  · exact q.elim
/-- [..] * n as a list of one's own -/
def opRepL : D → D → Tree (List D)
  | .lst xs, .int k => if repOk xs.length k = true then leaf (List.replicate k.toNat xs).flatten else fail
  | _, _ => fail
theorem sl_rep {a b : Expr} {ma mb : En → Tree D} {pos : Pos} (ha : SP X a ma) (hb : SP X b mb) : SL X (.BinOp a .Mult b pos) (fun E => (ma E).bind fun d => (mb E).bind fun e => opRepL d e) := by
  refine ⟨PE.weak (pe_op op_rep ha.pe hb.pe) fun σ H Q ⟨B, F, E, g, rl, q⟩ => ?_⟩
  refine ⟨B, F, E, g, rl, Tree.all_mono (fun d k v F1 H1 e1 p1 => ?_) (Tree.all_bind.mp q)⟩
  refine ⟨B, F1, E, e1.good, rl.ext e1, Tree.all_mono (fun e k u F2 H2 e2 p2 => ?_) (Tree.all_bind.mp k)⟩
  have p1 := p1.ext e2
  unfold opRepL at k
  split at k
  · split at k
    · rename_i h
      unfold repOk at h
      simp only [Bool.and_eq_true, decide_eq_true_eq] at h
      obtain ⟨a, xs, rfl, h1, r1⟩ := p1.lst e2.good
      cases p2.int
      refine ⟨a, _, xs, rfl, rfl, h1, h.1.1, h.1.2, by rw [r1.length]; exact h.2, fun p hp => ?_⟩
      have f := e2.good.free hp
      exact k p _ F2 _ ((e1.trans e2).trans (Ext.new e2.good hp)) upd_same f.1 f.2 (ext_none g (e1.trans e2) hp) (r1.rep _)
    · exact k.elim
  · exact k.elim

/-! ### comparisons of ints -/
def cmpI (p : Int → Int → Bool) : D → D → Tree Bool
  | .int i, .int j => leaf (p i j)
  | _, _ => fail
theorem c2_int {p : Int → Int → Bool} : Cmp2 K (rI0 fun i j => .bl (p i j)) (cmpI p) := by
  intro F H v u d e Q g p1 p2 q
  unfold cmpI at q
  split at q
  · cases p1.int; cases p2.int
    exact ⟨_, _, rfl, rfl, q⟩
  · exact q.elim
def cLt : D → D → Tree Bool := cmpI fun i j => decide (i < j)
def cLe : D → D → Tree Bool := cmpI fun i j => decide (i ≤ j)
def cGt : D → D → Tree Bool := cmpI fun i j => decide (j < i)
def cGe : D → D → Tree Bool := cmpI fun i j => decide (j ≤ i)
def cIsN : D → D → Tree Bool
  | .pot, .non => fail
  | .ty _, .non => fail
  | .scr _, .non => fail
  | .non, .non => leaf true
  | _, .non => leaf false
  | _, _ => fail
theorem not_non {F : Fz} {H : Hp} {v : V} {d : D} (h : Pk K F H v d) (hd : d ≠ .non) : decide (v = V.non) = false := decide_eq_false fun z => by
  subst z
  cases h with | rep r => cases r; exact hd rfl
theorem c2_isN : Cmp2 K (fun x y H Q => y = .non ∧ Q (.bl (decide (x = .non))) H) cIsN := by
  intro F H v u d e Q g p1 p2 q
  unfold cIsN at q
  split at q
  · exact q.elim
  · exact q.elim
  · exact q.elim
  · cases p1.non; cases p2.non; exact ⟨rfl, q⟩
  · rename_i h1 h2 h3 h4
    cases p2.non
    refine ⟨rfl, ?_⟩
    rw [not_non p1 (by intro z; exact h4 z)]
    exact q
  · exact q.elim
def cNotN : D → D → Tree Bool := fun d e => (cIsN d e).bind fun b => leaf (!b)
theorem c2_notN : Cmp2 K (fun x y H Q => y = .non ∧ Q (.bl (!decide (x = .non))) H) cNotN := by
  intro F H v u d e Q g p1 p2 q
  exact c2_isN F H v u d e (fun z H => ∃ b, z = .bl b ∧ Q (.bl (!b)) H) g p1 p2 (Tree.all_mono (fun b h => ⟨b, rfl, h⟩) (Tree.all_bind.mp q)) |> fun ⟨h1, b, h2, h3⟩ => ⟨h1, by cases h2; exact h3⟩

/-! ### == of data -/
def toPy : Nat → D → PyData
  | 0, _ => .none
  | n + 1, d => match d with
    | .non => .none
    | .bl b => .bool b
    | .int i => .int i
    | .str x => .str x
    | .tup xs => .tuple (xs.map (toPy n))
    | .lst xs => .list (xs.map (toPy n))
    | _ => .none
def fitD : Nat → D → Bool
  | 0, _ => false
  | n + 1, d => match d with
    | .non => true
    | .bl _ => true
    | .int _ => true
    | .str x => PyData.strOk x
    | .tup xs => xs.all (fitD n)
    | .lst xs => xs.all (fitD n)
    | _ => false
def allEq (p : D → D → Bool) : List D → List D → Bool
  | [], [] => true
  | x :: xs, y :: ys => p x y && allEq p xs ys
  | _, _ => false
def eqD : Nat → D → D → Bool
  | 0, _, _ => false
  | n + 1, d, e => match d, e with
    | .non, .non => true
    | .bl a, .bl b => a == b
    | .bl a, .int j => (if a then 1 else 0) == j
    | .int i, .bl b => i == (if b then 1 else 0)
    | .int i, .int j => i == j
    | .str x, .str y => x == y
    | .tup xs, .tup ys => allEq (eqD n) xs ys
    | .lst xs, .lst ys => allEq (eqD n) xs ys
    | _, _ => false
end
end R

set_option Elab.async false
set_option linter.all false
set_option maxRecDepth 100000
namespace R
open PySem PySem.Spec PyProof.Rows L2
open Tree (leaf fail)
section
variable {X : Cx} {K : PySem.W.Frag}
theorem canLayAll_map {n : Nat} (ih : ∀ d, fitD n d = true → (toPy n d).canLay0 = true) : ∀ xs : List D, xs.all (fitD n) = true → PyData.canLayAll0 (xs.map (toPy n)) = true
  | [], _ => by simp [PyData.canLayAll0]
  | x :: xs, h => by
    rw [List.all_cons, Bool.and_eq_true] at h
    rw [List.map_cons, PyData.canLayAll0, ih x h.1, canLayAll_map ih xs h.2]; rfl
theorem canLay_fit : ∀ (n : Nat) (d : D), fitD n d = true → (toPy n d).canLay0 = true
  | 0, _, h => by cases h
  | n + 1, d, h => by
    cases d with
    | non => simp [toPy, PyData.canLay0]
    | bl b => simp [toPy, PyData.canLay0]
    | int i => simp [toPy, PyData.canLay0]
    | str x => simp only [toPy, PyData.canLay0]; exact h
    | tup xs => simp only [toPy, PyData.canLay0]; exact canLayAll_map (canLay_fit n) xs h
    | lst xs => simp only [toPy, PyData.canLay0]; exact canLayAll_map (canLay_fit n) xs h
    | pot => cases h
    | ty _ => cases h
    | scr _ => cases h
    | dct => cases h
    | fn _ => cases h
theorem depthAll_map {n : Nat} (ih : ∀ d, (toPy n d).depth ≤ n) : ∀ xs : List D, PyData.depthAll (xs.map (toPy n)) ≤ n
  | [] => by simp [PyData.depthAll]
  | x :: xs => by
    rw [List.map_cons, PyData.depthAll]
    have := ih x
    have := depthAll_map ih xs
    omega
theorem depth_py : ∀ (n : Nat) (d : D), (toPy n d).depth ≤ n
  | 0, _ => by simp [toPy, PyData.depth]
  | n + 1, d => by
    cases d with
    | tup xs => simp only [toPy, PyData.depth]; have := depthAll_map (depth_py n) xs; omega
    | lst xs => simp only [toPy, PyData.depth]; have := depthAll_map (depth_py n) xs; omega
    | _ => simp [toPy, PyData.depth]
theorem shaped_fit {n : Nat} {d : D} (hn : n ≤ 64) (h : fitD n d = true) : SeqAt.shaped (toPy n d) = true := by
  unfold SeqAt.shaped
  rw [canLay_fit n d h, Bool.true_and, decide_eq_true_eq]
  exact Nat.le_trans (depth_py n d) hn
theorem eqvAll_map {n : Nat} (ih : ∀ d e, fitD n d = true → fitD n e = true → PyData.eqv (toPy n d) (toPy n e) = eqD n d e) : ∀ xs ys : List D, xs.all (fitD n) = true → ys.all (fitD n) = true → PyData.eqvAll (xs.map (toPy n)) (ys.map (toPy n)) = allEq (eqD n) xs ys
  | [], [], _, _ => by simp [PyData.eqvAll, allEq]
  | [], _ :: _, _, _ => by simp [PyData.eqvAll, allEq]
  | _ :: _, [], _, _ => by simp [PyData.eqvAll, allEq]
  | x :: xs, y :: ys, h1, h2 => by
    rw [List.all_cons, Bool.and_eq_true] at h1 h2
    rw [List.map_cons, List.map_cons, PyData.eqvAll, allEq, ih x y h1.1 h2.1, eqvAll_map ih xs ys h1.2 h2.2]
theorem eqv_py : ∀ (n : Nat) (d e : D), fitD n d = true → fitD n e = true → PyData.eqv (toPy n d) (toPy n e) = eqD n d e
  | 0, _, _, h, _ => by cases h
  | n + 1, d, e, h1, h2 => by
    cases d <;> cases e <;> first
      | (cases h1; done)
      | (cases h2; done)
      | (simp only [toPy, PyData.eqv, eqD]; done)
      | (simp only [toPy, PyData.eqv, eqD]; exact eqvAll_map (eqv_py n) _ _ h1 h2)
theorem dpAll_of {n : Nat} {F : Fz} {H : Hp} (ih : ∀ d v, fitD n d = true → Rep K F v d → Dp K H v (toPy n d)) : ∀ (ds : List D) (vs : List V), ds.all (fitD n) = true → Reps K F vs ds → DpAll K H vs (ds.map (toPy n))
  | _, _, _, .nil => .nil
  | d :: ds, _, h, .cons r rs => by
    rw [List.all_cons, Bool.and_eq_true] at h
    exact .cons (ih d _ h.1 r) (dpAll_of ih ds _ h.2 rs)
theorem dp_of {F : Fz} {H : Hp} (g : Good F H) : ∀ (n : Nat) (d : D) (v : V), fitD n d = true → Rep K F v d → Dp K H v (toPy n d)
  | 0, _, _, h, _ => by cases h
  | n + 1, d, v, h, r => by
    cases r with
    | non => exact .non
    | bl b => exact .bl b
    | int i => exact .int i
    | str x => exact .str x
    | tup hs rs => exact .tup (sqT_same g.sub hs.sq) (dpAll_of (dp_of g n) _ _ h rs)
    | lst hs rs => exact .lst (.of (g.sub _ _ hs)) (dpAll_of (dp_of g n) _ _ h rs)
    | pot _ => cases h
    | ty _ => cases h
    | scr _ => cases h
    | dct _ => cases h
    | fn _ => cases h
theorem dpk_of {F : Fz} {H : Hp} (g : Good F H) {n : Nat} {d : D} {v : V} (h : fitD n d = true) (p : Pk K F H v d) : Dp K H v (toPy n d) := by
  cases p with
  | rep r => exact dp_of g n d v h r
  | own hh _ _ rs =>
    cases n with
    | zero => cases h
    | succ n => exact .lst (.of hh) (dpAll_of (dp_of g n) _ _ h rs)
def cEq : D → D → Tree Bool := fun d e => if (fitD 12 d && fitD 12 e) = true then leaf (eqD 12 d e) else fail
def cNe : D → D → Tree Bool := fun d e => if (fitD 12 d && fitD 12 e) = true then leaf (!eqD 12 d e) else fail
theorem c2_eq : Cmp2 K (rEqD K) cEq := by
  intro F H v u d e Q g p1 p2 q
  unfold cEq at q
  split at q
  · rename_i h
    rw [Bool.and_eq_true] at h
    refine ⟨_, _, dpk_of g h.1 p1, dpk_of g h.2 p2, shaped_fit (by decide) h.1, shaped_fit (by decide) h.2, ?_⟩
    rw [eqv_py 12 d e h.1 h.2]; exact q
  · exact q.elim
theorem c2_ne : Cmp2 K (rNeD K) cNe := by
  intro F H v u d e Q g p1 p2 q
  unfold cNe at q
  split at q
  · rename_i h
    rw [Bool.and_eq_true] at h
    refine ⟨_, _, dpk_of g h.1 p1, dpk_of g h.2 p2, shaped_fit (by decide) h.1, shaped_fit (by decide) h.2, ?_⟩
    rw [eqv_py 12 d e h.1 h.2]; exact q
  · exact q.elim
/-! ### in -/
def flatD : D → Bool
  | .non => true
  | .bl _ => true
  | .int _ => true
  | .str _ => true
  | _ => false
theorem flat_of {F : Fz} {v : V} {d : D} (h : flatD d = true) (r : Rep K F v d) : flatV v = true := by
  cases r <;> first | rfl | cases h
theorem eqV_of {F : Fz} {v w : V} {d e : D} (hd : flatD d = true) (he : flatD e = true) (r : Rep K F v d) (s : Rep K F w e) : eqV v w = eqD 1 d e := by
  cases r <;> cases s <;> first | rfl | (cases hd; done) | (cases he; done)
theorem flats_of {F : Fz} : ∀ {vs : List V} {ds : List D}, ds.all flatD = true → Reps K F vs ds → vs.all flatV = true
  | _, _, _, .nil => rfl
  | _, _, h, .cons r rs => by
    rw [List.all_cons, Bool.and_eq_true] at h ⊢
    exact ⟨flat_of h.1 r, flats_of h.2 rs⟩
theorem inV_of {F : Fz} {v : V} {d : D} (hd : flatD d = true) (r : Rep K F v d) : ∀ {vs : List V} {ds : List D}, ds.all flatD = true → Reps K F vs ds → inV v vs = ds.any fun e => eqD 1 e d
  | _, _, _, .nil => rfl
  | _, _, h, .cons q qs => by
    rw [List.all_cons, Bool.and_eq_true] at h
    unfold inV
    rw [List.any_cons, List.any_cons, eqV_of h.1 hd q r]
    exact congrArg _ (inV_of hd r h.2 qs)
theorem Pk.flat {F : Fz} {H : Hp} {v : V} {d : D} (h : flatD d = true) (p : Pk K F H v d) : Rep K F v d := by
  cases p with
  | rep r => exact r
  | own _ _ _ _ => cases h
def inB (d : D) (ds : List D) : Tree Bool := if (flatD d && ds.all flatD) = true then leaf (ds.any fun e => eqD 1 e d) else fail
def cIn (neg : Bool) : D → D → Tree Bool
  | d, .lst ds => (inB d ds).bind fun b => leaf (if neg then !b else b)
  | d, .tup ds => (inB d ds).bind fun b => leaf (if neg then !b else b)
  | _, _ => fail
theorem c2_in (neg : Bool) : Cmp2 K (rIn K neg) (cIn neg) := by
  intro F H v u d e Q g p1 p2 q
  have go : ∀ {ds : List D} {a : Addr} {xs : List V}, (SqL K H a xs ∨ SqT K H a xs) → Reps K F xs ds → ((inB d ds).bind fun b => leaf (if neg then !b else b)).all (fun b => Q (.bl b) H) → rIn K neg v (.ref a) H Q := fun {ds a xs} hs rs q => by
    have q := Tree.all_bind.mp q
    unfold inB at q
    by_cases h : (flatD d && ds.all flatD) = true
    · rw [if_pos h] at q
      rw [Bool.and_eq_true] at h
      refine ⟨a, xs, rfl, hs, flat_of h.1 (p1.flat h.1), flats_of h.2 rs, ?_⟩
      rw [inV_of h.1 (p1.flat h.1) h.2 rs]
      exact q
    · rw [if_neg h] at q
      exact False.elim q
  unfold cIn at q
  split at q
  · obtain ⟨a, xs, rfl, h1, r1⟩ := p2.lst g
    exact go (.inl (.of h1)) r1 q
  · obtain ⟨a, xs, rfl, h1, r1⟩ := p2.tup g
    exact go (.inr h1) r1 q
  · exact q.elim

/-! ### items -/
def ixO {α : Type} (xs : List α) (i : Int) (k : α → Tree D) : Tree D := match atI xs i with
  | some d => k d
  | none => fail
def opIx : D → D → Tree D
  | .lst xs, .int i => ixO xs i leaf
  | .tup xs, .int i => ixO xs i leaf
  | .scr ns, .int i => ixO ns i fun k => leaf (.int k)
  | _, _ => fail
theorem atI_rep {F : Fz} {vs : List V} {ds : List D} {i : Int} {d : D} (r : Reps K F vs ds) (h : atI ds i = some d) : ∃ v, atI vs i = some v ∧ Rep K F v d := by
  unfold atI at h ⊢
  rw [← r.length] at h
  cases e : ixN vs.length i with
  | none => rw [e] at h; cases h
  | some j =>
    rw [e] at h
    obtain ⟨v, h1, h2⟩ := r.get' (show ds[j]? = some d from h)
    exact ⟨v, h1, h2⟩
theorem atI_map {α β : Type} (f : α → β) (xs : List α) (i : Int) : atI (xs.map f) i = (atI xs i).map f := by
  unfold atI
  rw [List.length_map]
  cases ixN xs.length i with
  | none => rfl
  | some j => show (xs.map f)[j]? = _; rw [List.getElem?_map]; rfl
theorem o2_ix : Op2 K (rIx K) opIx := by
  intro F H v u d e Q g p1 p2 q
  unfold opIx at q
  split at q
  · obtain ⟨a, xs, rfl, h1, r1⟩ := p1.lst g
    cases p2.int
    unfold ixO at q
    split at q
    · rename_i x hx
      obtain ⟨w, hw, rw'⟩ := atI_rep r1 hx
      exact .inl ⟨a, xs, _, w, rfl, rfl, .of h1, hw, q w F H (Ext.refl g) rw'⟩
    · exact q.elim
  · obtain ⟨a, xs, rfl, h1, r1⟩ := p1.tup g
    cases p2.int
    unfold ixO at q
    split at q
    · rename_i x hx
      obtain ⟨w, hw, rw'⟩ := atI_rep r1 hx
      exact .inr (.inl ⟨a, xs, _, w, rfl, rfl, h1, hw, q w F H (Ext.refl g) rw'⟩)
    · exact q.elim
  · obtain ⟨a, rfl, h1⟩ := p1.scr g
    cases p2.int
    unfold ixO at q
    split at q
    · rename_i x hx
      refine .inl ⟨a, _, _, .int x, rfl, rfl, h1, ?_, q _ F H (Ext.refl g) (.int x)⟩
      rw [atI_map, hx]; rfl
    · exact q.elim
  · exact q.elim

/-! ### slices -/
def cutD (xs : List D) (lo hi : Option Int) : List D := (xs.drop (HT.sIx xs.length 0 lo)).take (HT.sIx xs.length xs.length hi - HT.sIx xs.length 0 lo)
theorem cut_rep {F : Fz} {vs : List V} {ds : List D} (r : Reps K F vs ds) (lo hi : Option Int) : Reps K F (cutV vs lo hi) (cutD ds lo hi) := by
  unfold cutV cutD
  rw [r.length]
  exact (r.drop _).take _
def opCut (lo hi : Option Int) : D → Tree D
  | .lst xs => leaf (.lst (cutD xs lo hi))
  | .tup xs => leaf (.tup (cutD xs lo hi))
  | _ => fail
def rCut (K : PySem.W.Frag) : V → Option Int → Option Int → Hp → VK → Prop := fun x lo hi H Q => rSlL K x lo hi H Q ∨ rSlA K x lo hi H Q
theorem sl_cut : SlR X (rCut X.K) := SlR.or sl_list sl_tupA
structure SO (X : Cx) (e : Option Expr) (m : En → Tree (Option Int)) : Prop where
  po : ∃ t, PO X e t ∧ ∀ σ H Q, (∃ B F E, Good F H ∧ RelE X.K B F H σ E ∧ (m E).all fun o => ∀ F' H', Ext F H F' H' → Q o H') → t σ H Q
theorem so_none : SO X none (fun _ => leaf none) := ⟨_, po_none, fun σ H Q ⟨B, F, E, g, r, q⟩ => q F H (Ext.refl g)⟩
def mPart (m : En → Tree D) : En → Tree (Option Int) := fun E => (m E).bind fun d => match d with
  | .int i => leaf (some i)
  | _ => fail
theorem so_some {e : Expr} {m : En → Tree D} (h : SP X e m) : SO X (some e) (mPart m) := ⟨_, po_some h.pe, fun σ H Q ⟨B, F, E, g, r, q⟩ => by
  refine ⟨B, F, E, g, r, Tree.all_mono (fun d k v F' H' e p => ?_) (Tree.all_bind.mp q)⟩
  cases d with
  | int i => exact ⟨i, p.int, k F' H' e⟩
  | _ => exact False.elim k⟩
def mCut (m : En → Tree D) (ml mh : En → Tree (Option Int)) : En → Tree D := fun E => (m E).bind fun d => (ml E).bind fun lo => (mh E).bind fun hi => opCut lo hi d
theorem cut_all {F : Fz} {H : Hp} {v : V} {d : D} {lo hi : Option Int} {Q : VK} (g : Good F H) (p : Pk K F H v d) (q : (opCut lo hi d).all fun d => ∀ v F' H', Ext F H F' H' → Rep K F' v d → Q v H') : rCut K v lo hi H Q := by
  unfold opCut at q
  split at q
  · obtain ⟨a, xs, rfl, h1, r1⟩ := p.lst g
    refine .inl ⟨a, xs, rfl, .of h1, fun p hp => ?_⟩
    exact q _ (F.add p (.lst _)) _ (Ext.addNew g hp) (.lst upd_same ((cut_rep r1 lo hi).mono (Fz.le_add (g.free hp).1)))
  · obtain ⟨a, xs, rfl, h1, r1⟩ := p.tup g
    have n1 : ∀ {c : Addr} {ds : List D}, Pk K F H (.ref c) (.tup ds) → Rep K F (.ref c) (.tup ds) := fun {c ds} h => by cases h with | rep r => exact r
    refine .inr ⟨a, xs, rfl, h1, fun w => ?_, fun w p hp => ?_⟩
    · have e : ∀ ds : List D, xs.length = ds.length → cutD ds lo hi = ds := fun ds hl => by
        unfold cutD
        rw [← hl, w.1, w.2, Nat.sub_zero, List.drop_zero, hl, List.take_length]
      rw [e _ r1.length] at q
      exact q _ F H (Ext.refl g) (n1 p)
    · exact q _ (F.add p (.tup _)) _ (Ext.addNew g hp) (.tup (.of upd_same) ((cut_rep r1 lo hi).mono (Fz.le_add (g.free hp).1)))
  · exact q.elim
theorem se_cut {e : Expr} {lo hi : Option Expr} {m : En → Tree D} {ml mh : En → Tree (Option Int)} {p2 pos : Pos} (he : SP X e m) (hl : SO X lo ml) (hh : SO X hi mh) : SE X (.Subscript e (.Slice lo hi none p2) pos) (mCut m ml mh) := by
  obtain ⟨tl, l1, l2⟩ := hl.po
  obtain ⟨th, h1, h2⟩ := hh.po
  refine ⟨PE.weak (pe_slice sl_cut he.pe l1 h1) fun σ H Q ⟨B, F, E, g, rl, q⟩ => ?_⟩
  refine ⟨B, F, E, g, rl, Tree.all_mono (fun d k v F1 H1 e1 p1 => ?_) (Tree.all_bind.mp q)⟩
  refine l2 _ _ _ ⟨B, F1, E, e1.good, rl.ext e1, Tree.all_mono (fun o k F2 H2 e2 => ?_) (Tree.all_bind.mp k)⟩
  refine h2 _ _ _ ⟨B, F2, E, e2.good, (rl.ext e1).ext e2, Tree.all_mono (fun o' k F3 H3 e3 => ?_) (Tree.all_bind.mp k)⟩
  exact cut_all e3.good ((p1.ext e2).ext e3) (Tree.all_mono (fun z kz w F4 H4 e4 rz => kz w F4 H4 (((e1.trans e2).trans e3).trans e4) rz) k)
end
end R

set_option Elab.async false
set_option linter.all false
set_option maxRecDepth 100000
namespace R
open PySem PySem.Spec PyProof.Rows L2
open Tree (leaf fail)
section
variable {X : Cx} {K : PySem.W.Frag} {x : Str} {p pos : Pos} {e : Expr} {es : List Expr} {ma : En → Tree (List D)} {f : List D → Tree D} {r : List V → Hp → VK → Prop} {id T : String}
theorem se_bi (hc : CallR X (.builtin id) r) (hf : Fn1 X.K r f) (hg : Gl X x) (hm : X.mg x = none) (hv : bootBuiltins x = some (.builtin id)) (ha : SPA X (e :: es) ma) (hn : x ≠ "__name__" := by decide) (hdb : (x == ("__debug__" : Str)) = false := by decide)
    (he : starEach (e :: es) X.env = (false, eval e X.env) :: starEach es X.env := by rfl) (hpl : (backTo pos (starEach es X.env)).any (·.1) = false := by rfl) : SE X (.Call (.Name x p) (e :: es) [] pos) (mA f ma) :=
  ⟨PE.weak (pe_callB hc hg hm hv ha.pa hn hdb he hpl) fun σ H Q h => callA hf h⟩
theorem se_bt (hc : CallR X (.type T) r) (hf : Fn1 X.K r f) (hg : Gl X x) (hm : X.mg x = none) (hv : bootBuiltins x = some (.type T)) (ha : SPA X (e :: es) ma) (hn : x ≠ "__name__" := by decide) (hdb : (x == ("__debug__" : Str)) = false := by decide)
    (he : starEach (e :: es) X.env = (false, eval e X.env) :: starEach es X.env := by rfl) (hpl : (backTo pos (starEach es X.env)).any (·.1) = false := by rfl) : SE X (.Call (.Name x p) (e :: es) [] pos) (mA f ma) :=
  ⟨PE.weak (pe_callTy hc hg hm hv ha.pa hn hdb he hpl) fun σ H Q h => callA hf h⟩
theorem CallR.or' {f : Value} {r r' : List V → Hp → VK → Prop} (h : CallR X f r) (h' : CallR X f r') : CallR X f (fun xs H Q => r xs H Q ∨ r' xs H Q) := CallR.or h h'
theorem pks1 {F : Fz} {H : Hp} {vs : List V} {d : D} (h : Pks K F H vs [d]) : ∃ v, vs = [v] ∧ Pk K F H v d := by
  cases h with | cons a b => cases b; exact ⟨_, rfl, a⟩
theorem pks2 {F : Fz} {H : Hp} {vs : List V} {d e : D} (h : Pks K F H vs [d, e]) : ∃ v u, vs = [v, u] ∧ Pk K F H v d ∧ Pk K F H u e := by
  cases h with | cons a b => cases b with | cons c b => cases b; exact ⟨_, _, rfl, a, c⟩

/-! ### len -/
def fLen : List D → Tree D
  | [.lst xs] => leaf (.int xs.length)
  | [.tup xs] => leaf (.int xs.length)
  | [.scr xs] => leaf (.int xs.length)
  | [.str x] => lineOk x.length (leaf (.int x.length))
  | _ => fail
def rLenS (K : PySem.W.Frag) : List V → Hp → VK → Prop := fun xs H Q => ∃ p ys, xs = [.ref p] ∧ (SqL K H p ys ∨ SqT K H p ys) ∧ Q (.int ys.length) H
def rLenT : List V → Hp → VK → Prop := fun xs H Q => ∃ z, xs = [.str z] ∧ z.length ≤ sizeLine ∧ Q (.int z.length) H
theorem cr_len : CallR X (.builtin "len") (fun xs H Q => rLenS X.K xs H Q ∨ rLenT xs H Q) := CallR.or call_len_seq call_len_str
theorem f1_len : Fn1 K (fun xs H Q => rLenS K xs H Q ∨ rLenT xs H Q) fLen := by
  intro F H vs ds Q g p q
  unfold fLen at q
  split at q
  · obtain ⟨v, rfl, pk⟩ := pks1 p
    obtain ⟨a, xs, rfl, h1, r1⟩ := pk.lst g
    exact .inl ⟨a, xs, rfl, .inl (.of h1), q _ F H (Ext.refl g) (by rw [r1.length]; exact .int _)⟩
  · obtain ⟨v, rfl, pk⟩ := pks1 p
    obtain ⟨a, xs, rfl, h1, r1⟩ := pk.tup g
    exact .inl ⟨a, xs, rfl, .inr h1, q _ F H (Ext.refl g) (by rw [r1.length]; exact .int _)⟩
  · obtain ⟨v, rfl, pk⟩ := pks1 p
    obtain ⟨a, rfl, h1⟩ := pk.scr g
    exact .inl ⟨a, _, rfl, .inl h1, q _ F H (Ext.refl g) (by rw [List.length_map]; exact .int _)⟩
  · obtain ⟨v, rfl, pk⟩ := pks1 p
    obtain ⟨hl, q⟩ := lineOk_all q
    cases pk.str
    exact .inr ⟨_, rfl, hl, q _ F H (Ext.refl g) (.int _)⟩
  · exact q.elim
/-! ### numbers -/
def fAbs : List D → Tree D
  | [.int i] => leaf (.int (if i < 0 then -i else i))
  | _ => fail
theorem f1_abs : Fn1 K (fun xs H Q => ∃ i, xs = [.int i] ∧ Q (.int (if i < 0 then -i else i)) H) fAbs := by
  intro F H vs ds Q g p q
  unfold fAbs at q
  split at q
  · obtain ⟨v, rfl, pk⟩ := pks1 p
    cases pk.int
    exact ⟨_, rfl, q _ F H (Ext.refl g) (.int _)⟩
  · exact q.elim
def fMax2 : List D → Tree D
  | [.int i, .int j] => leaf (.int (if j > i then j else i))
  | _ => fail
theorem f1_max2 : Fn1 K (fun xs H Q => ∃ i j, xs = [.int i, .int j] ∧ Q (.int (if j > i then j else i)) H) fMax2 := by
  intro F H vs ds Q g p q
  unfold fMax2 at q
  split at q
  · obtain ⟨v, u, rfl, p1, p2⟩ := pks2 p
    cases p1.int; cases p2.int
    exact ⟨_, _, rfl, q _ F H (Ext.refl g) (.int _)⟩
  · exact q.elim
def fMin2 : List D → Tree D
  | [.int i, .int j] => leaf (.int (if j < i then j else i))
  | _ => fail
theorem f1_min2 : Fn1 K (fun xs H Q => ∃ i j, xs = [.int i, .int j] ∧ Q (.int (if j < i then j else i)) H) fMin2 := by
  intro F H vs ds Q g p q
  unfold fMin2 at q
  split at q
  · obtain ⟨v, u, rfl, p1, p2⟩ := pks2 p
    cases p1.int; cases p2.int
    exact ⟨_, _, rfl, q _ F H (Ext.refl g) (.int _)⟩
  · exact q.elim
def fInt : List D → Tree D
  | [.int i] => leaf (.int i)
  | [.bl k] => leaf (.int (if k then 1 else 0))
  | _ => fail
theorem f1_int : Fn1 K (fun xs H Q => (∃ i, xs = [.int i] ∧ Q (.int i) H) ∨ ∃ k, xs = [.bl k] ∧ Q (.int (if k then 1 else 0)) H) fInt := by
  intro F H vs ds Q g p q
  unfold fInt at q
  split at q
  · obtain ⟨v, rfl, pk⟩ := pks1 p
    cases pk.int
    exact .inl ⟨_, rfl, q _ F H (Ext.refl g) (.int _)⟩
  · obtain ⟨v, rfl, pk⟩ := pks1 p
    cases pk.bl
    exact .inr ⟨_, rfl, q _ F H (Ext.refl g) (.int _)⟩
  · exact q.elim
/-! ### sums, all, any over lists -/
def intsD : List D → Option (List Int)
  | [] => some []
  | .int i :: ds => (intsD ds).map (i :: ·)
  | _ => none
theorem ints_of {F : Fz} : ∀ {ds : List D} {vs : List V} {ns : List Int}, intsD ds = some ns → Reps K F vs ds → vs = ns.map V.int
  | [], _, ns, h, .nil => by cases h; rfl
  | d :: ds, _, ns, h, .cons r rs => by
    cases d with
    | int i =>
      have h : (intsD ds).map (i :: ·) = some ns := h
      cases e : intsD ds with
      | none => rw [e] at h; cases h
      | some ms =>
        rw [e] at h
        cases h
        cases r
        rw [List.map_cons, ints_of e rs]
    | _ => cases h
def blsD : List D → Option (List Bool)
  | [] => some []
  | .bl i :: ds => (blsD ds).map (i :: ·)
  | _ => none
theorem bls_of {F : Fz} : ∀ {ds : List D} {vs : List V} {ns : List Bool}, blsD ds = some ns → Reps K F vs ds → vs = ns.map V.bl
  | [], _, ns, h, .nil => by cases h; rfl
  | d :: ds, _, ns, h, .cons r rs => by
    cases d with
    | bl i =>
      have h : (blsD ds).map (i :: ·) = some ns := h
      cases e : blsD ds with
      | none => rw [e] at h; cases h
      | some ms =>
        rw [e] at h
        cases h
        cases r
        rw [List.map_cons, bls_of e rs]
    | _ => cases h
def withO {α : Type} (o : Option α) (k : α → Tree D) : Tree D := match o with
  | some a => k a
  | none => fail
def fSum : List D → Tree D
  | [.lst ds] => withO (intsD ds) fun ns => leaf (.int ns.sum)
  | [.scr ns] => leaf (.int ns.sum)
  | _ => fail
theorem f1_sum : Fn1 K (rSum K) fSum := by
  intro F H vs ds Q g p q
  unfold fSum at q
  split at q
  · obtain ⟨v, rfl, pk⟩ := pks1 p
    obtain ⟨a, xs, rfl, h1, r1⟩ := pk.lst g
    unfold withO at q
    split at q
    · rename_i ns hn
      have e := ints_of hn r1
      subst e
      exact ⟨a, ns, rfl, .of h1, q _ F H (Ext.refl g) (.int _)⟩
    · exact q.elim
  · obtain ⟨v, rfl, pk⟩ := pks1 p
    obtain ⟨a, rfl, h1⟩ := pk.scr g
    exact ⟨a, _, rfl, h1, q _ F H (Ext.refl g) (.int _)⟩
  · exact q.elim
def fAll : List D → Tree D
  | [.lst ds] => withO (blsD ds) fun bs => leaf (.bl (bs.all fun b => b))
  | _ => fail
theorem f1_all : Fn1 K (rAll K) fAll := by
  intro F H vs ds Q g p q
  unfold fAll at q
  split at q
  · obtain ⟨v, rfl, pk⟩ := pks1 p
    obtain ⟨a, xs, rfl, h1, r1⟩ := pk.lst g
    unfold withO at q
    split at q
    · rename_i ns hn
      have e := bls_of hn r1
      subst e
      exact ⟨a, ns, rfl, .of h1, q _ F H (Ext.refl g) (.bl _)⟩
    · exact q.elim
  · exact q.elim
def fAny : List D → Tree D
  | [.lst ds] => withO (blsD ds) fun bs => leaf (.bl (bs.any fun b => b))
  | _ => fail
theorem f1_any : Fn1 K (rAny K) fAny := by
  intro F H vs ds Q g p q
  unfold fAny at q
  split at q
  · obtain ⟨v, rfl, pk⟩ := pks1 p
    obtain ⟨a, xs, rfl, h1, r1⟩ := pk.lst g
    unfold withO at q
    split at q
    · rename_i ns hn
      have e := bls_of hn r1
      subst e
      exact ⟨a, ns, rfl, .of h1, q _ F H (Ext.refl g) (.bl _)⟩
    · exact q.elim
  · exact q.elim
/-! ### tuple(x), list(x) -/
def fTuple : List D → Tree D
  | [.lst ds] => leaf (.tup ds)
  | [.tup ds] => leaf (.tup ds)
  | _ => fail
theorem f1_tuple : Fn1 K (fun xs H Q => ∃ p ys, xs = [.ref p] ∧ ((SqL K H p ys ∧ ∀ l, H l = none → Q (.ref l) (upd H l (.tup ys))) ∨ (SqT K H p ys ∧ Q (.ref p) H))) fTuple := by
  intro F H vs ds Q g p q
  unfold fTuple at q
  split at q
  · obtain ⟨v, rfl, pk⟩ := pks1 p
    obtain ⟨a, xs, rfl, h1, r1⟩ := pk.lst g
    refine ⟨a, xs, rfl, .inl ⟨.of h1, fun l hl => ?_⟩⟩
    exact q _ (F.add l (.tup xs)) _ (Ext.addNew g hl) (.tup (.of upd_same) (r1.mono (Fz.le_add (g.free hl).1)))
  · obtain ⟨v, rfl, pk⟩ := pks1 p
    obtain ⟨a, xs, rfl, h1, r1⟩ := pk.tup g
    refine ⟨a, xs, rfl, .inr ⟨h1, ?_⟩⟩
    cases pk with | rep r => exact q _ F H (Ext.refl g) r
  · exact q.elim
def fList : D → Tree (List D)
  | .lst ds => leaf ds
  | .tup ds => leaf ds
  | _ => fail
theorem sl_list {m : En → Tree D} (hg : Gl X "list") (hm : X.mg "list" = none) (ha : SP X e m) (he : starEach (e :: []) X.env = (false, eval e X.env) :: starEach [] X.env := by rfl) : SL X (.Call (.Name "list" p) [e] [] pos) (fun E => (m E).bind fList) := by
  refine ⟨PE.weak (pe_callTy call_list_of hg hm (by decide +kernel) (pa_cons ha.pe pa_nil he) (by decide) (by decide) he (by rfl)) fun σ H Q ⟨B, F, E, g, rl, q⟩ => ?_⟩
  refine ⟨B, F, E, g, rl, Tree.all_mono (fun d k v F1 H1 e1 p1 => ?_) (Tree.all_bind.mp q)⟩
  show ∃ p ys, [v] = [.ref p] ∧ (SqL X.K H1 p ys ∨ SqT X.K H1 p ys) ∧ ∀ l, H1 l = none → Q (.ref l) (upd H1 l (.lst ys))
  have go : ∀ {xs : List V} {ds : List D}, Reps X.K F1 xs ds → ((leaf ds : Tree (List D)).all fun ds => ∀ a xs F' H', Ext F H F' H' → H' a = some (.lst xs) → F'.P a = none → ¬ F'.T a → NT H a → Reps X.K F' xs ds → Q (.ref a) H') → ∀ l, H1 l = none → Q (.ref l) (upd H1 l (.lst xs)) := fun {xs ds} r k l hl => by
    have f := e1.good.free hl
    exact k l xs F1 _ (e1.trans (Ext.new e1.good hl)) upd_same f.1 f.2 (ext_none g e1 hl) r
  unfold fList at k
  split at k
  · obtain ⟨a, xs, rfl, h1, r1⟩ := p1.lst e1.good
    exact ⟨a, xs, rfl, .inl (.of h1), go r1 k⟩
  · obtain ⟨a, xs, rfl, h1, r1⟩ := p1.tup e1.good
    exact ⟨a, xs, rfl, .inr h1, go r1 k⟩
  · exact k.elim
/-! ### isinstance -/
def tyOf : D → Option String
  | .non => some "NoneType"
  | .bl _ => some "bool"
  | .int _ => some "int"
  | .str _ => some "str"
  | .lst _ => some "list"
  | .tup _ => some "tuple"
  | .dct => some "dict"
  | _ => none
def instB (t c : String) : Bool := t == c || (t == "bool" && c == "int")
def knownT : List String := ["NoneType", "bool", "int", "str", "list", "tuple", "dict"]
def knownC : List String := ["bool", "int", "str", "list", "tuple", "dict"]
theorem kit_all : (knownT.all fun t => knownC.all fun c => kitB t c == some (instB t c)) = true := by decide +kernel
theorem kit_known {t c : String} (ht : knownT.contains t = true) (hc : knownC.contains c = true) : PySem.W.kitOne K (.type t) (.type c) = some (instB t c) := by
  have h := List.all_eq_true.mp (List.all_eq_true.mp kit_all t (List.contains_iff_mem.mp ht)) c (List.contains_iff_mem.mp hc)
  exact kit_ty (by simpa using h)
theorem ty_known {d : D} {t : String} (h : tyOf d = some t) : knownT.contains t = true := by
  cases d <;> cases h <;> rfl
theorem tyx_of {F : Fz} {H : Hp} (g : Good F H) {v : V} {d : D} {t : String} (p : Pk K F H v d) (h : tyOf d = some t) : TyX K H v (.type t) := by
  cases p with
  | own hh _ _ _ => cases h; exact .base (.lst hh)
  | rep r =>
    cases r with
    | non => cases h; exact .base .non
    | bl b => cases h; exact .base (.bl b)
    | int i => cases h; exact .base (.int i)
    | str x => cases h; exact .base (.str x)
    | lst hh _ => cases h; exact .base (.lst (g.sub _ _ hh))
    | tup hh _ =>
      cases h
      rcases hh with hh | ⟨o, its, n, hk, hc, _⟩
      · exact .base (.tup (g.sub _ _ hh))
      · exact .kTuple hk hc
    | pot _ => cases h
    | ty _ => cases h
    | scr _ => cases h
    | dct hh => cases h; exact .base (.dK (g.sub _ _ hh))
    | fn _ => cases h
def isTys : List D → Option (List String)
  | [] => some []
  | .ty c :: ds => if knownC.contains c then (isTys ds).map (c :: ·) else none
  | _ => none
theorem clsV_of {F : Fz} : ∀ {ds : List D} {vs : List V} {cs : List String}, isTys ds = some cs → Reps K F vs ds → Paired ClsV vs (cs.map Value.type) ∧ ∀ c ∈ cs, knownC.contains c = true
  | [], _, cs, h, .nil => by cases h; exact ⟨.nil, fun _ h => nomatch h⟩
  | d :: ds, _, cs, h, .cons r rs => by
    cases d with
    | ty c =>
      have h : (if knownC.contains c then (isTys ds).map (c :: ·) else none) = some cs := h
      split at h
      · rename_i hc
        cases e : isTys ds with
        | none => rw [e] at h; cases h
        | some ms =>
          rw [e] at h
          cases h
          cases r
          obtain ⟨a, b⟩ := clsV_of e rs
          exact ⟨.cons (.ty c) a, fun z hz => (List.mem_cons.mp hz).elim (fun q => q ▸ hc) (b z)⟩
      · cases h
    | _ => cases h
theorem kitAny_known {t : String} (ht : knownT.contains t = true) : ∀ cs : List String, (∀ c ∈ cs, knownC.contains c = true) → PySem.W.kitAny K (.type t) (cs.map Value.type) = some (cs.any (instB t))
  | [], _ => rfl
  | c :: cs, h => by
    have h1 : PySem.W.kitOne K (.type t) (.type c) = some (instB t c) := kit_known ht (h c List.mem_cons_self)
    have h2 := kitAny_known ht cs fun z hz => h z (List.mem_cons_of_mem _ hz)
    show (match PySem.W.kitOne K (.type t) (.type c) with | some true => some true | some false => PySem.W.kitAny K (.type t) (cs.map Value.type) | none => none) = _
    rw [h1, h2, List.any_cons]
    cases instB t c <;> rfl
def fIsi : List D → Tree D
  | [d, .ty c] => withO (tyOf d) fun t => if knownC.contains c = true then leaf (.bl (instB t c)) else fail
  | [d, .tup cs] => withO (tyOf d) fun t => withO (isTys cs) fun cs => leaf (.bl (cs.any (instB t)))
  | _ => fail
def rIsiA (K : PySem.W.Frag) : List V → Hp → VK → Prop := fun xs H Q => rIsi K xs H Q ∨ rIsiT K xs H Q ∨ rIsiK K xs H Q
theorem f1_isi : Fn1 K (rIsiA K) fIsi := by
  intro F H vs ds Q g p q
  unfold fIsi at q
  split at q
  · rename_i d c
    obtain ⟨v, u, rfl, p1, p2⟩ := pks2 p
    unfold withO at q
    split at q
    · rename_i t ht
      have q : (if knownC.contains c = true then leaf (D.bl (instB t c)) else fail).all _ := q
      by_cases hc : knownC.contains c = true
      · rw [if_pos hc] at q
        have e := p2.ty
        subst e
        exact .inl ⟨v, .ty c, .type t, .type c, instB t c, rfl, .ty c, tyx_of g p1 ht, kit_known (ty_known ht) hc, q _ F H (Ext.refl g) (.bl _)⟩
      · rw [if_neg hc] at q; exact q.elim
    · exact q.elim
  · rename_i d cs
    obtain ⟨v, u, rfl, p1, p2⟩ := pks2 p
    unfold withO at q
    split at q
    · rename_i t ht
      split at q
      · rename_i ns hn
        cases p2 with
        | rep r =>
          cases r with
          | tup hs rs =>
            obtain ⟨k1, k2⟩ := clsV_of hn rs
            rcases hs with hs | ⟨⟨oc, od, dt, sl⟩, its, n, hk, hc, hd, _, rv⟩
            · exact .inr (.inl ⟨v, _, _, .type t, _, _, rfl, g.sub _ _ hs, k1, tyx_of g p1 ht, kitAny_known (ty_known ht) ns k2, q _ F H (Ext.refl g) (.bl _)⟩)
            · have e := ClsV.all k1 rv
              simp only at hc hd
              subst hc hd
              exact .inr (.inr ⟨v, _, od, its.toList, n, sl, .type t, _, rfl, by rw [Array.toArray_toList]; exact hk, tyx_of g p1 ht, by rw [e]; exact kitAny_known (ty_known ht) ns k2, q _ F H (Ext.refl g) (.bl _)⟩)
      · exact q.elim
    · exact q.elim
  · exact q.elim
theorem cr_isi : CallR X (.builtin "isinstance") (rIsiA X.K) := CallR.or call_isi (CallR.or call_isiT call_isiK)
end
end R

set_option Elab.async false
set_option linter.all false
set_option maxRecDepth 100000
set_option maxHeartbeats 1000000
namespace R
open PySem PySem.Spec PyProof.Rows L2
open Tree (leaf fail)
/-! ### zip and enumerate over lists and tuples in any mixture -/
inductive SK where
  | l | t
namespace SK
def iter : SK → Heap → Addr → Addr → Nat → Prop
  | .l, h, i, a, n => h.IsListIter i a n
  | .t, h, i, a, n => h.IsTupleIter i a n
def seq : SK → Heap → Addr → Array Value → Prop
  | .l, h, a, xs => h.IsList a xs
  | .t, h, a, xs => h.IsTuple a xs
def nm : SK → String
  | .l => "list_iterator"
  | .t => "tuple_iterator"
theorem iter_at {k : SK} {h h' : Heap} {i a : Addr} {n : Nat} (x : k.iter h i a n) (e : ∀ o, h.get? i = some o → h'.get? i = some o) : k.iter h' i a n := by
  cases k with
  | l => exact Heap.IsListIter.at x e
  | t => exact Heap.IsTupleIter.at x e
theorem seq_at {k : SK} {h h' : Heap} {a : Addr} {xs : Array Value} (x : k.seq h a xs) (e : ∀ o, h.get? a = some o → h'.get? a = some o) : k.seq h' a xs := by
  cases k with
  | l => obtain ⟨o, ho, r⟩ := x; exact ⟨o, e o ho, r⟩
  | t => obtain ⟨o, ho, r⟩ := x; exact ⟨o, e o ho, r⟩
theorem iter_obj {k : SK} {h : Heap} {i a : Addr} {n : Nat} (x : k.iter h i a n) : ∃ o, h.get? i = some o ∧ ∀ v, o.data ≠ .cell v := by
  cases k with
  | l => obtain ⟨o, ho, _, hd⟩ := x; exact ⟨o, ho, fun v z => by rw [hd] at z; cases z⟩
  | t => obtain ⟨o, ho, _, hd⟩ := x; exact ⟨o, ho, fun v z => by rw [hd] at z; cases z⟩
theorem seq_lt {k : SK} {h : Heap} {a : Addr} {xs : Array Value} (x : k.seq h a xs) : a < h.objs.size := by
  cases k with
  | l => obtain ⟨o, ho, _⟩ := x; exact Heap.lt_size ho
  | t => obtain ⟨o, ho, _⟩ := x; exact Heap.lt_size ho
section
variable {prog : Program} {w : World} {A : Around} {E : Value → Shared → Prop} {s : Shared}
theorem item {k : SK} {i a : Addr} {n : Nat} {xs : Array Value} {x : Value} {Q : Value → Shared → Prop} (hi : k.iter s.heap i a n) (ha : k.seq s.heap a xs) (hx : xs[n]? = some x)
    (hQ : ∀ h', k.iter h' i a (n + 1) → Heap.SameBut i s.heap h' → Q x { s with heap := h' }) : wpAny (model prog w) A (Builtin.SmallTypes.nextOf (.ref i)) Q E s := by
  cases k with
  | l => exact wpAny_nextOf_list_item hi ha hx hQ
  | t => exact RZ.nextOf_tuple_item hi ha hx hQ
theorem done {k : SK} {i a : Addr} {n : Nat} {xs : Array Value} {Q : Value → Shared → Prop} (hh : A.handled = none) (hi : k.iter s.heap i a n) (ha : k.seq s.heap a xs) (hx : xs[n]? = none)
    (hE : ∀ h' e, Heap.ExtBut i s.heap h' → (∃ o, h'.get? e = some o ∧ o.cls = .type "StopIteration") → E (.ref e) { s with heap := h' }) : wpAny (model prog w) A (Builtin.SmallTypes.nextOf (.ref i)) Q E s := by
  cases k with
  | l => exact wpAny_nextOf_list_end hh hi ha hx hE
  | t => exact RZ.nextOf_tuple_end hh hi ha hx hE
theorem start {k : SK} {a : Addr} {xs : Array Value} {Q : Value → Shared → Prop} (ha : k.seq s.heap a xs) (h : Q (.ref s.heap.objs.size) { s with heap := s.heap.push { cls := .type k.nm, data := .fields #[.ref a, .int 0 0] } }) :
    wpAny (model prog w) A (pyIter (.ref a)) Q E s := by
  cases k with
  | l => exact wpAny_pyIter_list ha h
  | t => exact wpAny_pyIter_tuple ha h
theorem fresh {k : SK} {h : Heap} {i a : Addr} (e : h.get? i = some { cls := .type k.nm, data := .fields #[.ref a, .int 0 0] }) : k.iter h i a 0 := by
  cases k with
  | l => exact ⟨_, e, rfl, rfl⟩
  | t => exact ⟨_, e, rfl, rfl⟩
end
end SK

section
variable {prog : Program} {w : World} {A : Around} {E : Value → Shared → Prop} {s : Shared}
variable {z TI TO i1 i2 l1 l2 : Addr} {k1 k2 : SK} {n : Nat} {xs ys : Array Value} {x y a b : Value}
theorem mixed_item {Q : Value → Shared → Prop} (D : ZipApart z TI TO i1 i2 l1 l2) (hz : IsZip s.heap z TI TO .none) (hTI : IsPair s.heap TI (.ref i1) (.ref i2)) (hTO : IsPair s.heap TO a b)
    (h1 : k1.iter s.heap i1 l1 n) (h2 : k2.iter s.heap i2 l2 n) (g1 : k1.seq s.heap l1 xs) (g2 : k2.seq s.heap l2 ys) (hx : xs[n]? = some x) (hy : ys[n]? = some y)
    (hQ : ∀ h', IsZip h' z TI TO (rawInt s.heap.objs.size) → IsPair h' TO x y → k1.iter h' i1 l1 (n + 1) → k2.iter h' i2 l2 (n + 1) → IsPair h' s.heap.objs.size x y →
      (∀ c o, c ∉ [z, TO, i1, i2] → s.heap.get? c = some o → h'.get? c = some o) → Q (.ref s.heap.objs.size) { s with heap := h' }) :
    wpAny (model prog w) A (Builtin.«zip.__next__» ⟨[.ref z], []⟩) (fun fin s' => ∃ v, fin = .done (.ret v) ∧ Q v s') E s := by
  show wpAny _ _ (field (.ref z) 2 >>= _) _ _ _
  refine wpAny_bind (wpAny_field hz rfl (x := .bool false) rfl ?_)
  show wpAny _ _ (field (.ref z) 3 >>= _) _ _ _
  refine wpAny_bind (wpAny_field hz rfl (x := .ref TI) rfl (wpAny_bind (wpAny_seqItems hTI rfl ?_)))
  show wpAny _ _ (Builtin.SmallTypes.ownedTupleIsFree (.ref z) >>= _) _ _ _
  unfold Builtin.SmallTypes.ownedTupleIsFree
  refine wpAny_bind (wpAny_bind (wpAny_field hz rfl (x := .none) rfl (wpAny_pure ?_)))
  simp only [if_true]
  refine wpAny_bind (wpAny_rule (wpAny_bind (wpAny_field hz rfl (x := .ref TO) rfl ?_)))
  refine wpAny_bind (wpAny_setField_rec hz (by simp) fun ha za sa => ?_)
  have za : IsZip ha z TI TO .ellipsis := za
  have ka : ∀ c o, c ≠ z → s.heap.get? c = some o → ha.get? c = some o := fun c o ne e => (sa.2 c ne).trans e
  refine wpAny_bind ?_
  simp only [List.zipIdx_cons, List.zipIdx_nil, List.forIn_cons, List.forIn_nil]
  refine wpAny_bind (wpAny_bind (wpAny_onRaise (wpAny_bind (m := Builtin.SmallTypes.nextOf (.ref i1)) (SK.item (SK.iter_at h1 fun o => ka _ o D.i1z) (SK.seq_at g1 fun o => ka _ o D.l1z) hx fun hb j1 sb => wpAny_pure ?_))))
  have kb : ∀ c o, c ≠ z → c ≠ i1 → s.heap.get? c = some o → hb.get? c = some o := fun c o n1 n2 e => (sb.2 c n2).trans (ka c o n1 e)
  have pb : IsPair hb TO a b := kb _ _ D.TOz D.TOi1 hTO
  refine wpAny_bind (wpAny_seqItems pb rfl (wpAny_bind (wpAny_updateSeq_pair pb fun hc pc sc => ?_)))
  have pc : IsPair hc TO x b := pc
  have kc : ∀ c o, c ≠ z → c ≠ i1 → c ≠ TO → s.heap.get? c = some o → hc.get? c = some o := fun c o n1 n2 n3 e => (sc.2 c n3).trans (kb c o n1 n2 e)
  refine wpAny_bind (wpAny_letGo (wpAny_pure ?_))
  refine wpAny_bind (wpAny_bind (wpAny_onRaise (wpAny_bind (m := Builtin.SmallTypes.nextOf (.ref i2)) (SK.item (SK.iter_at h2 fun o => kc _ o D.i2z D.i12.symm D.TOi2.symm) (SK.seq_at g2 fun o => kc _ o D.l2z D.l2i1 D.l2TO) hy fun hd j2 sd => wpAny_pure ?_))))
  have kd : ∀ c o, c ≠ z → c ≠ i1 → c ≠ TO → c ≠ i2 → s.heap.get? c = some o → hd.get? c = some o := fun c o n1 n2 n3 n4 e => (sd.2 c n4).trans (kc c o n1 n2 n3 e)
  have pd : IsPair hd TO x b := (sd.2 _ D.TOi2).trans pc
  refine wpAny_bind (wpAny_seqItems pd rfl (wpAny_bind (wpAny_updateSeq_pair pd fun he pe se => ?_)))
  have pe : IsPair he TO x y := pe
  refine wpAny_bind (wpAny_letGo (wpAny_pure (wpAny_pure ?_)))
  refine wpAny_bind (wpAny_seqItems pe rfl (wpAny_bind (wpAny_newTuple ?_)))
  have size : he.objs.size = s.heap.objs.size := by rw [se.1, sd.1, sc.1, sb.1, sa.1]
  have ze : IsZip he z TI TO .ellipsis := (se.2 _ D.TOz.symm).trans ((sd.2 _ D.i2z.symm).trans ((sc.2 _ D.TOz.symm).trans ((sb.2 _ D.i1z.symm).trans za)))
  have q1 : k1.iter he i1 l1 (n + 1) := SK.iter_at j1 fun o e => (se.2 _ D.TOi1.symm).trans ((sd.2 _ D.i12).trans ((sc.2 _ D.TOi1.symm).trans e))
  have q2 : k2.iter he i2 l2 (n + 1) := SK.iter_at j2 fun o e => (se.2 _ D.TOi2.symm).trans e
  have zlt : z < he.objs.size := Heap.lt_size ze
  show wpAny _ _ (Builtin.SmallTypes.ownedTupleHandOut (.ref z) (.ref he.objs.size) >>= _) _ _ _
  unfold Builtin.SmallTypes.ownedTupleHandOut
  have zf : IsZip (he.push { cls := .type "tuple", data := .seq #[x, y] }) z TI TO .ellipsis := Heap.get?_push_of_some _ ze
  refine wpAny_bind (wpAny_bind (wpAny_setField_rec zf (by simp) fun hg zg sg => ?_))
  have zg : IsZip hg z TI TO (rawInt he.objs.size) := zg
  refine wpAny_setField_rec zg (by simp) fun hh zh sh => ?_
  have zh : IsZip hh z TI TO (rawInt he.objs.size) := zh
  have up : ∀ c o, c ≠ z → he.get? c = some o → hh.get? c = some o := fun c o ne e => (sh.2 c ne).trans ((sg.2 c ne).trans (Heap.get?_push_of_some _ e))
  have new : IsPair hh he.objs.size x y := (sh.2 _ (Nat.ne_of_gt zlt)).trans ((sg.2 _ (Nat.ne_of_gt zlt)).trans (Heap.get?_push_size _ rfl))
  rw [size] at zh new
  refine wpAny_pure ⟨_, rfl, ?_⟩
  show Q (.ref he.objs.size) _
  rw [size]
  refine hQ hh zh (up _ _ D.TOz pe) (SK.iter_at q1 fun o e => up _ o D.i1z e) (SK.iter_at q2 fun o e => up _ o D.i2z e) new fun c o nm e => ?_
  simp only [List.mem_cons, List.not_mem_nil, or_false, not_or] at nm
  exact up c o nm.1 ((se.2 c nm.2.1).trans (kd c o nm.1 nm.2.2.1 nm.2.1 nm.2.2.2 e))
theorem mixed_end {Q : Fin → Shared → Prop} (hh : A.handled = none) (D : ZipApart z TI TO i1 i2 l1 l2) (hz : IsZip s.heap z TI TO .none) (hTI : IsPair s.heap TI (.ref i1) (.ref i2)) (hTO : IsPair s.heap TO a b)
    (h1 : k1.iter s.heap i1 l1 n) (h2 : k2.iter s.heap i2 l2 n) (g1 : k1.seq s.heap l1 xs) (g2 : k2.seq s.heap l2 ys) (hend : xs[n]? = none ∨ ys[n]? = none)
    (hE : ∀ h' e, (∀ c o, c ∉ [z, TO, i1, i2] → s.heap.get? c = some o → h'.get? c = some o) → (∃ o, h'.get? e = some o ∧ o.cls = .type "StopIteration") → E (.ref e) { s with heap := h' }) :
    wpAny (model prog w) A (Builtin.«zip.__next__» ⟨[.ref z], []⟩) Q E s := by
  show wpAny _ _ (field (.ref z) 2 >>= _) _ _ _
  refine wpAny_bind (wpAny_field hz rfl (x := .bool false) rfl ?_)
  show wpAny _ _ (field (.ref z) 3 >>= _) _ _ _
  refine wpAny_bind (wpAny_field hz rfl (x := .ref TI) rfl (wpAny_bind (wpAny_seqItems hTI rfl ?_)))
  show wpAny _ _ (Builtin.SmallTypes.ownedTupleIsFree (.ref z) >>= _) _ _ _
  unfold Builtin.SmallTypes.ownedTupleIsFree
  refine wpAny_bind (wpAny_bind (wpAny_field hz rfl (x := .none) rfl (wpAny_pure ?_)))
  simp only [if_true]
  refine wpAny_bind (wpAny_rule (wpAny_bind (wpAny_field hz rfl (x := .ref TO) rfl ?_)))
  refine wpAny_bind (wpAny_setField_rec hz (by simp) fun ha za sa => ?_)
  have za : IsZip ha z TI TO .ellipsis := za
  have ka : ∀ c o, c ≠ z → s.heap.get? c = some o → ha.get? c = some o := fun c o ne e => (sa.2 c ne).trans e
  refine wpAny_bind ?_
  simp only [List.zipIdx_cons, List.zipIdx_nil, List.forIn_cons, List.forIn_nil]
  have h1a := SK.iter_at h1 fun o => ka _ o D.i1z
  have g1a := SK.seq_at g1 fun o => ka _ o D.l1z
  refine wpAny_bind (wpAny_bind (wpAny_onRaise ?_))
  cases hx : xs[n]? with
  | none =>
    refine wpAny_bind (m := Builtin.SmallTypes.nextOf (.ref i1)) (SK.done hh h1a g1a hx fun hb e xb ⟨oe, hoe, hce⟩ => ?_)
    have zb : IsZip hb z TI TO .ellipsis := xb _ _ D.i1z.symm za
    have ez : e ≠ z := fun q => by rw [q, zb] at hoe; cases hoe; simp at hce
    refine wpAny_setField_rec zb (by simp) fun hc _ sc => hE hc e (fun c o nm q => ?_) ⟨oe, (sc.2 e ez).trans hoe, hce⟩
    simp only [List.mem_cons, List.not_mem_nil, or_false, not_or] at nm
    exact (sc.2 c nm.1).trans (xb c o nm.2.2.1 (ka c o nm.1 q))
  | some x =>
    have hy : ys[n]? = none := hend.elim (fun q => by rw [hx] at q; cases q) fun q => q
    refine wpAny_bind (m := Builtin.SmallTypes.nextOf (.ref i1)) (SK.item h1a g1a hx fun hb j1 sb => wpAny_pure ?_)
    have kb : ∀ c o, c ≠ z → c ≠ i1 → s.heap.get? c = some o → hb.get? c = some o := fun c o n1 n2 e => (sb.2 c n2).trans (ka c o n1 e)
    have pb : IsPair hb TO a b := kb _ _ D.TOz D.TOi1 hTO
    refine wpAny_bind (wpAny_seqItems pb rfl (wpAny_bind (wpAny_updateSeq_pair pb fun hc pc sc => ?_)))
    have kc : ∀ c o, c ≠ z → c ≠ i1 → c ≠ TO → s.heap.get? c = some o → hc.get? c = some o := fun c o n1 n2 n3 e => (sc.2 c n3).trans (kb c o n1 n2 e)
    refine wpAny_bind (wpAny_letGo (wpAny_pure ?_))
    refine wpAny_bind (wpAny_bind (wpAny_onRaise ?_))
    refine wpAny_bind (m := Builtin.SmallTypes.nextOf (.ref i2)) (SK.done hh (SK.iter_at h2 fun o => kc _ o D.i2z D.i12.symm D.TOi2.symm) (SK.seq_at g2 fun o => kc _ o D.l2z D.l2i1 D.l2TO) hy fun hd e xd ⟨oe, hoe, hce⟩ => ?_)
    have zd : IsZip hd z TI TO .ellipsis := xd _ _ D.i2z.symm ((sc.2 _ D.TOz.symm).trans ((sb.2 _ D.i1z.symm).trans za))
    have ez : e ≠ z := fun q => by rw [q, zd] at hoe; cases hoe; simp at hce
    refine wpAny_setField_rec zd (by simp) fun he _ se => hE he e (fun c o nm q => ?_) ⟨oe, (se.2 e ez).trans hoe, hce⟩
    simp only [List.mem_cons, List.not_mem_nil, or_false, not_or] at nm
    exact (se.2 c nm.1).trans (xd c o nm.2.2.2 (kc c o nm.1 nm.2.2.1 nm.2.1 q))
end
/-- what a zip's record looks like at its i-th turn -/
structure ZSt (k1 k2 : SK) (z TI TO i1 i2 l1 l2 : Addr) (i : Nat) (h : Heap) : Prop where
  z : IsZip h z TI TO .none
  ti : IsPair h TI (.ref i1) (.ref i2)
  to : ∃ x y, IsPair h TO x y
  a : k1.iter h i1 l1 i
  b : k2.iter h i2 l2 i
def sq (K : PySem.W.Frag) : SK → Hp → Addr → List V → Prop
  | .l, H, a, xs => SqL K H a xs
  | .t, H, a, xs => SqT K H a xs
theorem Inv.sqs {X : Cx} {pins : List (Addr × Obj)} {σ : L2.St} {H : Hp} {s : Shared} (I : Inv X pins σ H s) {k : SK} {a : Addr} {xs : List V} (h : sq X.K k H a xs) : ∃ its : List Value, Vals xs its ∧ k.seq s.heap a its.toArray := by
  cases k with
  | l => obtain ⟨its, r, p, _⟩ := I.list h; exact ⟨its, r, p.isList⟩
  | t => obtain ⟨its, r, p, _⟩ := I.tuple h; exact ⟨its, r, p⟩
theorem Inv.sq_inj {X : Cx} {pins : List (Addr × Obj)} {σ : L2.St} {H : Hp} {s : Shared} (I : Inv X pins σ H s) {k : SK} {a : Addr} {xs ys : List V} (h : sq X.K k H a xs) (h' : sq X.K k H a ys) : xs = ys := by
  cases k with
  | l => exact I.list_inj h h'
  | t => exact I.tuple_inj h h'
def Izm (K : PySem.W.Frag) (k1 k2 : SK) (a b : Addr) : It :=
  ⟨fun i H => ∃ (xs ys : List V) (x y : V), sq K k1 H a xs ∧ sq K k2 H b ys ∧ xs[i]? = some x ∧ ys[i]? = some y,
    fun i H v H' => ∃ T x y, v = .ref T ∧ H T = none ∧ H' = upd H T (.tup [x, y]) ∧ (∀ xs, sq K k1 H a xs → xs[i]? = some x) ∧ ∀ ys, sq K k2 H b ys → ys[i]? = some y,
    fun i H => ∃ xs ys : List V, sq K k1 H a xs ∧ sq K k2 H b ys ∧ (xs.length ≤ i ∨ ys.length ≤ i)⟩
section
variable {P : Program} {w : World} {K : PySem.W.Frag} {elts : List Expr} {kk : Nat} {tpos : Pos} {k1 k2 : SK} {a b z TI TO i1 i2 : Addr}
theorem sub4 {c z TI TO i1 i2 : Addr} (h : c ∈ [z, TO, i1, i2]) : c ∈ [z, TI, TO, i1, i2] := by
  simp only [List.mem_cons, List.not_mem_nil, or_false] at h
  rcases h with rfl | rfl | rfl | rfl <;> simp
theorem turn_mixed (D : ZipApart z TI TO i1 i2 a b) : Turn P w K (.Tuple elts kk tpos) (Izm K k1 k2 a b) [z, TI, TO, i1, i2] z (ZSt k1 k2 z TI TO i1 i2 a b) where
  mem := by simp
  obj := fun i h st c hc => by
    obtain ⟨x, y, to⟩ := st.to
    simp only [List.mem_cons, List.not_mem_nil, or_false] at hc
    rcases hc with q | q | q | q | q
    · rw [q]; exact ⟨_, st.z, fun v q => nomatch q⟩
    · rw [q]; exact ⟨_, st.ti, fun v q => nomatch q⟩
    · rw [q]; exact ⟨_, to, fun v q => nomatch q⟩
    · rw [q]; exact SK.iter_obj st.a
    · rw [q]; exact SK.iter_obj st.b
  keep := fun i h h' st k => by
    obtain ⟨x, y, to⟩ := st.to
    exact ⟨k z (by simp) _ st.z, k TI (by simp) _ st.ti, ⟨x, y, k TO (by simp) _ to⟩, SK.iter_at st.a fun o q => k i1 (by simp) o q, SK.iter_at st.b fun o q => k i2 (by simp) o q⟩
  item := by
    intro X hP hw hK hc i pins s σ H E I hf st hg
    subst hP hw hK
    obtain ⟨x0, y0, to⟩ := st.to
    obtain ⟨xs, ys, x, y, qx, qy, hx, hy⟩ := hg
    obtain ⟨its, r1, p1⟩ := Inv.sqs I qx
    obtain ⟨jts, r2, p2⟩ := Inv.sqs I qy
    obtain ⟨u, hu, ru⟩ := r1.get hx
    obtain ⟨u2, hu2, ru2⟩ := r2.get hy
    have hT : s.TypeIs (.ref z) "zip" := ⟨_, st.z, rfl⟩
    have zl : z < s.heap.objs.size := Heap.lt_size st.z
    unfold pyNext
    refine wpAny_bind (wpAny_attempt (wpAny_callSpecial?_slot (name := Str.ofString "__next__") hT F.slot_zip_next (wpAny_call_entry F.slot_zip_next hT F.entry_zip_next
      (mixed_item D st.z st.ti to st.a st.b p1 p2 (x := u) (y := u2) (by simpa using hu) (by simpa using hu2) fun h' z' to' a' b' new keep => wpAny_pure ?_) (F.args_zip_next_1 _))))
    refine ⟨_, rfl, wpAny_letOwnedTupleGo_zip (s := { s with heap := h' }) z' fun g' gz sb => ?_⟩
    have new2 : g'.get? s.heap.objs.size = some { cls := .type "tuple", data := .seq #[u, u2] } := (sb.2 _ (Nat.ne_of_gt zl)).trans new
    have lt : ∀ c ∈ [z, TI, TO, i1, i2], c < s.heap.objs.size := fun c hcm => by
      simp only [List.mem_cons, List.not_mem_nil, or_false] at hcm
      rcases hcm with q | q | q | q | q
      · rw [q]; exact zl
      · rw [q]; exact Heap.lt_size st.ti
      · rw [q]; exact Heap.lt_size to
      · obtain ⟨o, e, _⟩ := SK.iter_obj st.a; rw [q]; exact Heap.lt_size e
      · obtain ⟨o, e, _⟩ := SK.iter_obj st.b; rw [q]; exact Heap.lt_size e
    have I1 : Inv X pins σ (upd H s.heap.objs.size (.tup [x, y])) { s with heap := g' } :=
      I.turnedNew (t' := s.toks) (ch := [z, TI, TO, i1, i2]) (fun c o hb q => (sb.2 c (fun e => hb (by simp [e]))).trans (keep c o (fun m => hb (sub4 m)) q)) hf (Nat.le_refl _)
        ⟨by show 2 ≤ sizeLine; decide, [u, u2], .cons ru (.cons ru2 .nil), ⟨_, new2, rfl, _, rfl⟩⟩
    refine ⟨.ref s.heap.objs.size, _, I1, rfl, ⟨_, x, y, rfl, I.hok.fresh (Nat.le_refl _), rfl, fun l hl => by rw [Inv.sq_inj I hl qx]; exact hx, fun l hl => by rw [Inv.sq_inj I hl qy]; exact hy⟩, ⟨gz, ?_, ⟨u, u2, (sb.2 _ D.TOz).trans to'⟩, SK.iter_at a' fun o q => (sb.2 _ D.i1z).trans q, SK.iter_at b' fun o q => (sb.2 _ D.i2z).trans q⟩, fun c hcm => ?_⟩
    · exact (sb.2 _ D.TIz).trans (keep _ _ (by simp [D.TIz, D.TITO, D.TIi1, D.TIi2]) st.ti)
    · rw [upd_ne (Nat.ne_of_lt (lt c hcm))]
      exact (hf c hcm).1
  done := by
    intro X hP hw hK hc i pins s σ H E I hf st hg
    subst hP hw hK
    obtain ⟨x0, y0, to⟩ := st.to
    obtain ⟨xs, ys, qx, qy, hend⟩ := hg
    obtain ⟨its, r1, p1⟩ := Inv.sqs I qx
    obtain ⟨jts, r2, p2⟩ := Inv.sqs I qy
    have l1 := r1.length
    have l2 := r2.length
    have hT : s.TypeIs (.ref z) "zip" := ⟨_, st.z, rfl⟩
    have he : its.toArray[i]? = none ∨ jts.toArray[i]? = none := hend.elim (fun q => .inl (by simp; omega)) fun q => .inr (by simp; omega)
    unfold pyNext
    refine wpAny_bind (wpAny_attempt (wpAny_callSpecial?_slot (name := Str.ofString "__next__") hT F.slot_zip_next (wpAny_call_entry F.slot_zip_next hT F.entry_zip_next
      (mixed_end (I.ok.hd hc) D st.z st.ti to st.a st.b p1 p2 he fun h' e keep ⟨o, ho, hco⟩ => ?_) (F.args_zip_next_1 _))))
    refine wpAny_bind (wpAny_isInstance (T := "StopIteration") (b := true) ⟨o, ho, hco⟩ isSubtype_stop (wpAny_pure ⟨rfl, ?_⟩))
    exact I.turnedL (t' := s.toks) (ch := [z, TI, TO, i1, i2]) (fun c o hb q => keep c o (fun m => hb (sub4 m)) q) hf
  self := fun A i s Q E st h => wpAny_pyIter_zip st.z h
end
section
variable {prog : Program} {w : World} {A : Around} {E : Value → Shared → Prop} {s : Shared}
theorem zip_new {k1 k2 : SK} (l1 l2 : Addr) (xs ys : Array Value) :
    Meets (Builtin.«zip.__new__» ⟨[.type "zip", .ref l1, .ref l2], []⟩) (fun _ R s => k1.seq s.heap l1 xs ∧ k2.seq s.heap l2 ys ∧
      ∀ h', ZSt k1 k2 (s.heap.objs.size + 4) (s.heap.objs.size + 2) (s.heap.objs.size + 3) s.heap.objs.size (s.heap.objs.size + 1) l1 l2 0 h' → (∀ c o, s.heap.get? c = some o → h'.get? c = some o) → R (.ok (.ret (.ref (s.heap.objs.size + 4)))) { s with heap := h' }) :=
  .of_wp fun prog w A R s h => by
    obtain ⟨hp, g, d, tk, os⟩ := s
    obtain ⟨g1, g2, h⟩ := h
    have hsub := sub_zip
    let o1 : Obj := { cls := .type k1.nm, data := .fields #[.ref l1, .int 0 0] }
    let o2 : Obj := { cls := .type k2.nm, data := .fields #[.ref l2, .int 0 0] }
    have u1 : ∀ {A : Around} {E : Value → Shared → Prop} {Q : Value → Shared → Prop}, Q (.ref hp.objs.size) ⟨hp.push o1, g, d, tk, os⟩ → wpAny (model prog w) A (pyIter (.ref l1)) Q E ⟨hp, g, d, tk, os⟩ := fun {A E Q} q => SK.start (s := ⟨hp, g, d, tk, os⟩) g1 q
    have u2 : ∀ {A : Around} {E : Value → Shared → Prop} {Q : Value → Shared → Prop}, Q (.ref (hp.push o1).objs.size) ⟨(hp.push o1).push o2, g, d, tk, os⟩ → wpAny (model prog w) A (pyIter (.ref l2)) Q E ⟨hp.push o1, g, d, tk, os⟩ := fun {A E Q} q => SK.start (s := ⟨hp.push o1, g, d, tk, os⟩) (SK.seq_at g2 fun o e => Heap.get?_push_of_some _ e) q
    wp_walk using u1, u2
    refine ⟨_, rfl, ?_⟩
    let o3 : Obj := { cls := .type "tuple", data := .seq #[.ref hp.objs.size, .ref (hp.push o1).objs.size] }
    let o4 : Obj := { cls := .type "tuple", data := .seq #[.none, .none] }
    have n1 : (hp.push o1).objs.size = hp.objs.size + 1 := Heap.size_push ..
    have n2 : ((hp.push o1).push o2).objs.size = hp.objs.size + 2 := by rw [Heap.size_push, n1]
    have n3 : (((hp.push o1).push o2).push o3).objs.size = hp.objs.size + 3 := by rw [Heap.size_push, n2]
    have n4 : ((((hp.push o1).push o2).push o3).push o4).objs.size = hp.objs.size + 4 := by rw [Heap.size_push, n3]
    have z4 : Value.ref ((((hp.push o1).push o2).push o3).push o4).objs.size = .ref (hp.objs.size + 4) := by rw [n4]
    let o5 : Obj := { cls := .type "zip", data := .fields #[.none, .bool false, .bool false, .ref ((hp.push o1).push o2).objs.size, .ref (((hp.push o1).push o2).push o3).objs.size] }
    have e5 : o5 = { cls := .type "zip", data := .fields #[.none, .bool false, .bool false, .ref (hp.objs.size + 2), .ref (hp.objs.size + 3)] } := by simp only [o5, n2, n3]
    show R (.ok (.ret (.ref ((((hp.push o1).push o2).push o3).push o4).objs.size))) ⟨((((hp.push o1).push o2).push o3).push o4).push o5, g, d, tk, os⟩
    rw [n4]
    refine h _ ⟨?_, ?_, ⟨.none, .none, ?_⟩, ?_, ?_⟩ fun c o e => ?_
    · have e := Heap.get?_push_size ((((hp.push o1).push o2).push o3).push o4) (o := o5) rfl
      rw [n4] at e
      exact e.trans (congrArg some e5)
    · have e := Heap.get?_push_size ((hp.push o1).push o2) (o := o3) rfl
      rw [n2] at e
      have e : ((hp.push o1).push o2 |>.push o3).get? (hp.objs.size + 2) = some { cls := .type "tuple", data := .seq #[.ref hp.objs.size, .ref (hp.objs.size + 1)] } := by rw [e]; simp only [o3, n1]
      exact Heap.get?_push_of_some _ (Heap.get?_push_of_some _ e)
    · have e := Heap.get?_push_size (((hp.push o1).push o2).push o3) (o := o4) rfl
      rw [n3] at e
      exact Heap.get?_push_of_some _ e
    · exact SK.iter_at (SK.fresh (Heap.get?_push_size hp (o := o1) rfl)) fun o e => Heap.get?_push_of_some _ (Heap.get?_push_of_some _ (Heap.get?_push_of_some _ (Heap.get?_push_of_some _ e)))
    · have e := Heap.get?_push_size (hp.push o1) (o := o2) rfl
      rw [n1] at e
      exact SK.iter_at (SK.fresh e) fun o e => Heap.get?_push_of_some _ (Heap.get?_push_of_some _ (Heap.get?_push_of_some _ e))
    · exact Heap.get?_push_of_some _ (Heap.get?_push_of_some _ (Heap.get?_push_of_some _ (Heap.get?_push_of_some _ (Heap.get?_push_of_some _ e))))
theorem call_zip {k1 k2 : SK} {l1 l2 : Addr} {xs ys : Array Value} {Q : Value → Shared → Prop} (h1 : k1.seq s.heap l1 xs) (h2 : k2.seq s.heap l2 ys)
    (h : ∀ h', ZSt k1 k2 (s.heap.objs.size + 4) (s.heap.objs.size + 2) (s.heap.objs.size + 3) s.heap.objs.size (s.heap.objs.size + 1) l1 l2 0 h' → (∀ c o, s.heap.get? c = some o → h'.get? c = some o) → Q (.ref (s.heap.objs.size + 4)) { s with heap := h' }) :
    wpAny (model prog w) A (call (.type "zip") [.ref l1, .ref l2]) Q E s :=
  callType_new F.called_zip (by decide) (F.typeCall_zip_2 _ _) (F.newCall_zip_2 _ _) (fun obj => F.args_object_init_3 obj _ _) F.entry_zip_new
    (zip_new l1 l2 xs ys) ⟨h1, h2, fun h' st keep => ⟨⟨_, st.z, rfl⟩, h h' st keep⟩⟩
end
def iZm (K : PySem.W.Frag) (ta : TA) : TI := fun σ H R => ta σ H fun vs H1 => ∃ a b k1 k2 xs ys, vs = [.ref a, .ref b] ∧ sq K k1 H1 a xs ∧ sq K k2 H1 b ys ∧ R (Izm K k1 k2 a b) H1
theorem pi_zm {X : Cx} {e e2 : Expr} {ta : TA} {p pos tpos : Pos} {elts : List Expr} {kk : Nat} (hg : Gl X "zip") (hm : X.mg "zip" = none) (ha : PA X [e, e2] ta)
    (hs : starEach [e, e2] X.env = (false, eval e X.env) :: starEach [e2] X.env := by rfl) (hpl : (backTo pos (starEach [e2] X.env)).any (·.1) = false := by rfl) :
    PI X (.Tuple elts kk tpos) (.Call (.Name "zip" p) [e, e2] [] pos) (iZm X.K ta) := by
  refine ⟨fun pins s σ H R I h => ?_⟩
  refine Call_ (ld_blt I hg hm PyProof.Rows.boot_zip (PyProof.Rows.callWith_type1 (thn (ha.run pos pins s σ H _ I h) fun us s1 ⟨vs, H1, I1, r1, a, b, k1, k2, xs, ys, ex, qx, qy, q⟩ => ?_) hs hpl))
  subst ex
  cases r1 with
  | cons r rr =>
    cases rr with
    | cons r' rr =>
      cases rr
      cases r
      cases r'
      obtain ⟨its, _, p1⟩ := Inv.sqs I1 qx
      obtain ⟨jts, _, p2⟩ := Inv.sqs I1 qy
      refine call_zip p1 p2 fun h' st keep => wpAny_pyIter_zip st.z ?_
      refine ⟨s1.heap.objs.size + 4, [s1.heap.objs.size + 4, s1.heap.objs.size + 2, s1.heap.objs.size + 3, s1.heap.objs.size, s1.heap.objs.size + 1], _, _, H1, rfl, I1.kept (t' := s1.toks) keep, turn_mixed (PySem.W.ktu_apart s1.heap.objs.size a b (SK.seq_lt p1) (SK.seq_lt p2)), st, fun c hc => ?_, q⟩
      have hle : s1.heap.objs.size ≤ c := by
        simp only [List.mem_cons, List.not_mem_nil, or_false] at hc
        rcases hc with z | z | z | z | z <;> (rw [z]; first | exact Nat.le_add_right _ _ | exact Nat.le_refl _)
      exact I1.fpOk hle (I1.hok.fresh hle)
end R

set_option Elab.async false
set_option linter.all false
set_option maxRecDepth 100000
set_option maxHeartbeats 1000000
namespace R
open PySem PySem.Spec PyProof.Rows L2
open Tree (leaf fail)
section
variable {prog : Program} {w : World} {A : Around} {E : Value → Shared → Prop} {s : Shared} {e it l : Addr} {k : SK} {i : Nat} {xs : Array Value} {x old : Value}
theorem enum_item {Q : Value → Shared → Prop} (he : IsEnum s.heap e it i old) (hi : k.iter s.heap it l i) (hl : k.seq s.heap l xs) (hx : xs[i]? = some x) (ne : e ≠ it)
    (hQ : ∀ h', IsEnumOut h' e it ((i : Int) + 1) x s.heap.objs.size → k.iter h' it l (i + 1) → h'.get? s.heap.objs.size = some { cls := .type "tuple", data := .seq #[.int i s.toks, x] } →
      (∀ b o, b ≠ e → b ≠ it → s.heap.get? b = some o → h'.get? b = some o) → Q (.ref s.heap.objs.size) { s with heap := h', toks := s.toks + 1 }) :
    wpAny (model prog w) A (Builtin.«enumerate.__next__» ⟨[.ref e], []⟩) (fun fin s' => ∃ v, fin = .done (.ret v) ∧ Q v s') E s := by
  obtain ⟨hp, g, d, tk, os⟩ := s
  have el : e < hp.objs.size := Heap.lt_size he
  show wpAny _ _ (field (.ref e) 2 >>= _) _ _ _
  refine wpAny_bind (wpAny_field he rfl (x := .ref it) rfl (wpAny_bind (m := Builtin.SmallTypes.nextOf (.ref it)) (SK.item hi hl hx fun ha j sa => ?_)))
  have sa : Heap.SameBut it hp ha := sa
  have ea : IsEnum ha e it i old := (sa.2 e ne).trans he
  show wpAny _ _ (field (.ref e) 3 >>= _) _ _ ⟨ha, g, d, tk, os⟩
  refine wpAny_bind (wpAny_field ea rfl (x := rawInt i) rfl ?_)
  show wpAny _ _ (field (.ref e) 4 >>= _) _ _ ⟨ha, g, d, tk, os⟩
  refine wpAny_bind (wpAny_field ea rfl (x := .none) rfl ?_)
  show wpAny _ _ (mkInt i >>= _) _ _ ⟨ha, g, d, tk, os⟩
  refine wpAny_bind (wpAny_mkInt ?_)
  show wpAny _ _ (setField (.ref e) 3 (rawInt ((i : Int) + 1)) >>= _) _ _ ⟨ha, g, d, tk + 1, os⟩
  refine wpAny_bind (wpAny_setField_rec ea (by simp) fun hb eb sb => ?_)
  have eb : IsEnum hb e it ((i : Int) + 1) old := eb
  have sb : Heap.SameBut e ha hb := sb
  show wpAny _ _ (setField (.ref e) 4 .none >>= _) _ _ ⟨hb, g, d, tk + 1, os⟩
  refine wpAny_bind (wpAny_setField_rec eb (by simp) fun hc ec sc => ?_)
  have ec : IsEnum hc e it ((i : Int) + 1) old := ec
  have sc : Heap.SameBut e hb hc := sc
  show wpAny _ _ (newTuple [.int i tk, x] >>= _) _ _ ⟨hc, g, d, tk + 1, os⟩
  refine wpAny_bind (wpAny_newTuple ?_)
  have size : hc.objs.size = hp.objs.size := by rw [sc.1, sb.1, sa.1]
  have kc : ∀ b o, b ≠ e → b ≠ it → hp.get? b = some o → hc.get? b = some o := fun b o n1 n2 q => (sc.2 b n1).trans ((sb.2 b n1).trans ((sa.2 b n2).trans q))
  have jc : k.iter hc it l (i + 1) := SK.iter_at j fun o q => (sc.2 it ne.symm).trans ((sb.2 it ne.symm).trans q)
  have new : (hc.push { cls := .type "tuple", data := .seq #[.int i tk, x] }).get? hp.objs.size = some { cls := .type "tuple", data := .seq #[.int i tk, x] } := by rw [← size]; exact Heap.get?_push_size _ rfl
  have ed : IsEnum (hc.push { cls := .type "tuple", data := .seq #[.int i tk, x] }) e it ((i : Int) + 1) old := Heap.get?_push_of_some _ ec
  have up : ∀ b o, hc.get? b = some o → (hc.push { cls := .type "tuple", data := .seq #[.int i tk, x] }).get? b = some o := fun b o q => Heap.get?_push_of_some _ q
  generalize hc.push { cls := .type "tuple", data := .seq #[.int i tk, x] } = hd at new ed up
  show wpAny _ _ (Builtin.SmallTypes.ownedTupleIsFree (.ref e) >>= _) _ _ ⟨hd, g, d, tk + 1, os⟩
  rw [size]
  unfold Builtin.SmallTypes.ownedTupleIsFree
  refine wpAny_bind (wpAny_bind (wpAny_field ed rfl (x := .none) rfl (wpAny_pure ?_)))
  simp only [if_true]
  refine wpAny_bind (wpAny_rule (wpAny_bind (wpAny_field ed rfl (x := old) rfl (wpAny_bind (wpAny_setField_rec ed (by simp) fun hf ef sf => ?_)))))
  have ef : IsEnum hf e it ((i : Int) + 1) x := ef
  have sf : Heap.SameBut e hd hf := sf
  show wpAny _ _ (Builtin.SmallTypes.ownedTupleHandOut (.ref e) (.ref hp.objs.size) >>= _) _ _ ⟨hf, g, d, tk + 1, os⟩
  unfold Builtin.SmallTypes.ownedTupleHandOut
  refine wpAny_bind (wpAny_bind (wpAny_setField_rec ef (by simp) fun hg eg sg => ?_))
  have eg : IsEnumOut hg e it ((i : Int) + 1) x hp.objs.size := eg
  have sg : Heap.SameBut e hf hg := sg
  refine wpAny_setField_rec eg (by simp) fun hh eh sh => ?_
  have eh : IsEnumOut hh e it ((i : Int) + 1) x hp.objs.size := eh
  have sh : Heap.SameBut e hg hh := sh
  have last : ∀ b o, b ≠ e → hd.get? b = some o → hh.get? b = some o := fun b o n1 q => (sh.2 b n1).trans ((sg.2 b n1).trans ((sf.2 b n1).trans q))
  refine wpAny_bind (wpAny_letGo (wpAny_pure ⟨_, rfl, hQ hh eh (SK.iter_at jc fun o q => last _ o ne.symm (up _ o q)) (last _ _ (Nat.ne_of_gt el) new) fun b o n1 n2 q => last b o n1 (up b o (kc b o n1 n2 q))⟩))
theorem enum_end {Q : Fin → Shared → Prop} (hh : A.handled = none) (he : IsEnum s.heap e it i old) (hi : k.iter s.heap it l i) (hl : k.seq s.heap l xs) (hx : xs[i]? = none)
    (hE : ∀ h' z, Heap.ExtBut it s.heap h' → (∃ o, h'.get? z = some o ∧ o.cls = .type "StopIteration") → E (.ref z) { s with heap := h' }) :
    wpAny (model prog w) A (Builtin.«enumerate.__next__» ⟨[.ref e], []⟩) Q E s := by
  show wpAny _ _ (field (.ref e) 2 >>= _) _ _ _
  exact wpAny_bind (wpAny_field he rfl (x := .ref it) rfl (wpAny_bind (m := Builtin.SmallTypes.nextOf (.ref it)) (SK.done hh hi hl hx hE)))
theorem enum_new {k : SK} (l : Addr) (xs : Array Value) :
    Meets (Builtin.«enumerate.__new__» ⟨[.type "enumerate", .ref l], []⟩) (fun _ R s => k.seq s.heap l xs ∧
      ∀ h', IsEnum h' (s.heap.objs.size + 1) s.heap.objs.size 0 .none → k.iter h' s.heap.objs.size l 0 → (∀ c o, s.heap.get? c = some o → h'.get? c = some o) → R (.ok (.ret (.ref (s.heap.objs.size + 1)))) { s with heap := h' }) :=
  .of_wp fun prog w A R s h => by
    obtain ⟨hp, g, d, tk, os⟩ := s
    obtain ⟨g1, h⟩ := h
    have hsub : isSubtype (.type "enumerate") (.type "enumerate") = pure true := by rw [isSubtype_type]; kernel_rfl
    let o1 : Obj := { cls := .type k.nm, data := .fields #[.ref l, .int 0 0] }
    have u1 : ∀ {A : Around} {E : Value → Shared → Prop} {Q : Value → Shared → Prop}, Q (.ref hp.objs.size) ⟨hp.push o1, g, d, tk, os⟩ → wpAny (model prog w) A (pyIter (.ref l)) Q E ⟨hp, g, d, tk, os⟩ := fun {A E Q} q => SK.start (s := ⟨hp, g, d, tk, os⟩) g1 q
    have fin : R (.ok (.ret (.ref (hp.push o1).objs.size))) ⟨(hp.push o1).push { cls := .type "enumerate", data := .fields #[.none, .bool false, .ref hp.objs.size, rawInt 0, .none, .none] }, g, d, tk, os⟩ := by
      have n1 : (hp.push o1).objs.size = hp.objs.size + 1 := Heap.size_push ..
      rw [n1]
      refine h _ ?_ (SK.iter_at (SK.fresh (Heap.get?_push_size hp (o := o1) rfl)) fun o e => Heap.get?_push_of_some _ e) fun c o e => Heap.get?_push_of_some _ (Heap.get?_push_of_some _ e)
      have e := Heap.get?_push_size (hp.push o1) (o := { cls := .type "enumerate", data := .fields #[.none, .bool false, .ref hp.objs.size, rawInt 0, .none, .none] }) rfl
      rw [n1] at e
      exact e
    wp_walk using u1
    refine wpAny_stack_any fun st => wpAny_pure ?_
    split
    · rename_i c _ _ _ _ _
      cases (c == Value.type "enumerate") <;> (wp_walk using u1; exact ⟨_, rfl, fin⟩)
    · wp_walk using u1
      exact ⟨_, rfl, fin⟩
theorem call_enum {Q : Value → Shared → Prop} (h1 : k.seq s.heap l xs)
    (h : ∀ h', IsEnum h' (s.heap.objs.size + 1) s.heap.objs.size 0 .none → k.iter h' s.heap.objs.size l 0 → (∀ c o, s.heap.get? c = some o → h'.get? c = some o) → Q (.ref (s.heap.objs.size + 1)) { s with heap := h' }) :
    wpAny (model prog w) A (call (.type "enumerate") [.ref l]) Q E s :=
  callType_new F.called_enumerate (by decide) (F.typeCall_enumerate_1 _) (F.newCall_enumerate_1 _) (fun obj => F.args_object_init_2 obj _) F.entry_enumerate_new
    (enum_new l xs) ⟨h1, fun h' e it keep => ⟨⟨_, e, rfl⟩, h h' e it keep⟩⟩
end
def Iem (K : PySem.W.Frag) (k : SK) (a : Addr) : It :=
  ⟨fun i H => ∃ (xs : List V) (x : V), sq K k H a xs ∧ xs[i]? = some x, fun i H v H' => ∃ T x, v = .ref T ∧ H T = none ∧ H' = upd H T (.tup [.int (i : Nat), x]) ∧ ∀ xs, sq K k H a xs → xs[i]? = some x,
    fun i H => ∃ xs : List V, sq K k H a xs ∧ xs.length ≤ i⟩
theorem turn_em {P : Program} {w : World} {K : PySem.W.Frag} {elts : List Expr} {kk : Nat} {tpos : Pos} {k : SK} {a e it : Addr} (ne : e ≠ it) :
    Turn P w K (.Tuple elts kk tpos) (Iem K k a) [e, it] e (fun i h => (∃ old, IsEnum h e it ((i : Nat) : Int) old) ∧ k.iter h it a i) where
  mem := by simp
  obj := fun i h st b hb => by
    obtain ⟨⟨old, he⟩, hi⟩ := st
    simp only [List.mem_cons, List.not_mem_nil, or_false] at hb
    rcases hb with z | z
    · rw [z]; exact ⟨_, he, fun v q => nomatch q⟩
    · rw [z]; exact SK.iter_obj hi
  keep := fun i h h' st k => let ⟨⟨old, he⟩, hi⟩ := st; ⟨⟨old, k e (by simp) _ he⟩, SK.iter_at hi fun o q => k it (by simp) o q⟩
  item := by
    intro X hP hw hK hc i pins s σ H E I hf st hg
    subst hP hw hK
    obtain ⟨⟨old, he⟩, hi⟩ := st
    obtain ⟨xs, x, hq, hx⟩ := hg
    obtain ⟨its, rv, p⟩ := Inv.sqs I hq
    obtain ⟨u, hu, ru⟩ := rv.get hx
    have hT : s.TypeIs (.ref e) "enumerate" := ⟨_, he, rfl⟩
    have el : e < s.heap.objs.size := Heap.lt_size he
    have il : it < s.heap.objs.size := by obtain ⟨o, q, _⟩ := SK.iter_obj hi; exact Heap.lt_size q
    unfold pyNext
    refine wpAny_bind (wpAny_attempt (wpAny_callSpecial?_slot (name := Str.ofString "__next__") hT F.slot_enumerate_next (wpAny_call_entry F.slot_enumerate_next hT F.entry_enumerate_next
      (enum_item he hi p (x := u) (by simpa using hu) ne fun h' ho hi' new keep => wpAny_pure ?_) (F.args_enumerate_next_1 _))))
    refine ⟨_, rfl, wpAny_letOwnedTupleGo_enum (s := { s with heap := h', toks := s.toks + 1 }) ho fun g' eg sb => ?_⟩
    have new2 : g'.get? s.heap.objs.size = some { cls := .type "tuple", data := .seq #[.int i s.toks, u] } := (sb.2 _ (Nat.ne_of_gt el)).trans new
    have I1 : Inv X pins σ (upd H s.heap.objs.size (.tup [.int (i : Nat), x])) { s with heap := g', toks := s.toks + 1 } :=
      I.turnedNew (ch := [e, it]) (fun b o hb q => (sb.2 b (fun z => hb (by simp [z]))).trans (keep b o (fun z => hb (by simp [z])) (fun z => hb (by simp [z])) q)) hf (Nat.le_refl _)
        ⟨by show 2 ≤ sizeLine; decide, [.int i s.toks, u], .cons ⟨_, rfl⟩ (.cons ru .nil), ⟨_, new2, rfl, _, rfl⟩⟩
    refine ⟨.ref s.heap.objs.size, _, I1, rfl, ⟨_, x, rfl, I.hok.fresh (Nat.le_refl _), rfl, fun ys hy => by rw [Inv.sq_inj I hy hq]; exact hx⟩, ⟨⟨u, ?_⟩, SK.iter_at hi' fun o q => (sb.2 it ne.symm).trans q⟩, fun b hb => ?_⟩
    · rw [show ((i + 1 : Nat) : Int) = (i : Int) + 1 by omega]; exact eg
    · have lt : b < s.heap.objs.size := by
        simp only [List.mem_cons, List.not_mem_nil, or_false] at hb
        rcases hb with z | z
        · rw [z]; exact el
        · rw [z]; exact il
      rw [upd_ne (Nat.ne_of_lt lt)]
      exact (hf b hb).1
  done := by
    intro X hP hw hK hc i pins s σ H E I hf st hg
    subst hP hw hK
    obtain ⟨⟨old, he⟩, hi⟩ := st
    obtain ⟨xs, hq, hx⟩ := hg
    obtain ⟨its, rv, p⟩ := Inv.sqs I hq
    have hl := rv.length
    have hT : s.TypeIs (.ref e) "enumerate" := ⟨_, he, rfl⟩
    obtain ⟨f0, f1, f2, f3, f4, f5⟩ := hf it (by simp)
    unfold pyNext
    refine wpAny_bind (wpAny_attempt (wpAny_callSpecial?_slot (name := Str.ofString "__next__") hT F.slot_enumerate_next (wpAny_call_entry F.slot_enumerate_next hT F.entry_enumerate_next
      (enum_end (I.ok.hd hc) he hi p (by simp; omega) fun h' z eb ⟨o, ho, hco⟩ => ?_) (F.args_enumerate_next_1 _))))
    refine wpAny_bind (wpAny_isInstance (T := "StopIteration") (b := true) ⟨o, ho, hco⟩ isSubtype_stop (wpAny_pure ⟨rfl, ?_⟩))
    exact I.turned (t' := s.toks) (fun b o hb q => eb b o hb q) f0 f1 f3 f4 f5
  self := fun A i s Q E st h => let ⟨⟨_, he⟩, _⟩ := st; wpAny_pyIter_enum he h
def iEm (K : PySem.W.Frag) (ta : TA) : TI := fun σ H R => ta σ H fun vs H1 => ∃ k a xs, vs = [.ref a] ∧ sq K k H1 a xs ∧ R (Iem K k a) H1
theorem pi_em {X : Cx} {e : Expr} {ta : TA} {p pos tpos : Pos} {elts : List Expr} {kk : Nat} (hg : Gl X "enumerate") (hm : X.mg "enumerate" = none) (ha : PA X [e] ta) (hs : starEach [e] X.env = [(false, eval e X.env)] := by rfl) :
    PI X (.Tuple elts kk tpos) (.Call (.Name "enumerate" p) [e] [] pos) (iEm X.K ta) := by
  refine ⟨fun pins s σ H R I h => ?_⟩
  refine Call_ (ld_blt I hg hm boot_enumerate (PyProof.Rows.callWith_type1 (thn (ha.run pos pins s σ H _ I h) fun us s1 ⟨vs, H1, I1, r1, k, a, xs, ex, hq, q⟩ => ?_) hs rfl))
  subst ex
  cases r1 with
  | cons r rr =>
    cases rr
    cases r
    obtain ⟨its, rv, p'⟩ := Inv.sqs I1 hq
    refine call_enum p' fun h' he hi keep => wpAny_pyIter_enum he ?_
    refine ⟨s1.heap.objs.size + 1, [s1.heap.objs.size + 1, s1.heap.objs.size], _, _, H1, rfl, I1.kept (t' := s1.toks) keep, turn_em (Nat.succ_ne_self _), ⟨⟨.none, he⟩, hi⟩, fun b hb => ?_, q⟩
    have hle : s1.heap.objs.size ≤ b := by
      simp only [List.mem_cons, List.not_mem_nil, or_false] at hb
      rcases hb with z | z
      · rw [z]; exact Nat.le_add_right _ _
      · rw [z]; exact Nat.le_refl _
    exact I1.fpOk hle (I1.hok.fresh hle)
end R

set_option Elab.async false
set_option linter.all false
set_option maxRecDepth 100000
namespace R
open PySem PySem.Spec PyProof.Rows L2
open Tree (leaf fail)
/-! ### what a loop walks, by data -/
def Isq (K : PySem.W.Frag) : SK → Addr → It
  | .l, a => Itl K a
  | .t, a => Itt K a
theorem pi_sq {X : Cx} {tg l : Expr} {tl : TE} (hl : PE X l tl) : PI X tg l (fun σ H R => tl σ H fun x H1 => ∃ k a xs, x = .ref a ∧ sq X.K k H1 a xs ∧ R (Isq X.K k a) H1) := by
  refine ⟨fun pins s σ H R I h => thn (hl.run pins s σ H _ I h) fun v s1 ⟨x, H1, I1, r1, k, a, xs, e, hq, q⟩ => ?_⟩
  subst e
  cases r1
  have fp : ∀ b ∈ [s1.heap.objs.size], FpOk X pins H1 b := fun b hb => by
    rw [List.mem_singleton.mp hb]
    exact I1.fpOk (Nat.le_refl _) (I1.hok.fresh (Nat.le_refl _))
  obtain ⟨its, _, p⟩ := Inv.sqs I1 hq
  cases k with
  | l => exact wpAny_pyIter_list p ⟨_, _, _, _, H1, rfl, I1.kept (t' := s1.toks) fun b o e => Heap.get?_push_of_some _ e, turn_list a _, ⟨_, Heap.get?_push_size _ rfl, rfl, rfl⟩, fp, q⟩
  | t => exact wpAny_pyIter_tuple p ⟨_, _, _, _, H1, rfl, I1.kept (t' := s1.toks) fun b o e => Heap.get?_push_of_some _ e, turn_tuple a _, ⟨_, Heap.get?_push_size _ rfl, rfl, rfl⟩, fp, q⟩
section
variable {K : PySem.W.Frag} {A : Fz → Hp → Prop} {F' : Fz} {k k1 k2 : SK} {a b : Addr} {xs ys : List V} {ds es : List D}
structure Src (K : PySem.W.Frag) (A : Fz → Hp → Prop) (F' : Fz) (k : SK) (a : Addr) (xs : List V) (ds : List D) : Prop where
  at_ : ∀ F2 H2, A F2 H2 → Good F2 H2 → sq K k H2 a xs
  le : ∀ F2 H2, A F2 H2 → F'.Le F2
  rep : Reps K F' xs ds
theorem sq_inj {K : PySem.W.Frag} {k : SK} {H : Hp} {a : Addr} {x y : V} {i : Nat} (h : ∀ xs, sq K k H a xs → xs[i]? = some x) (hs : sq K k H a xs) (hy : xs[i]? = some y) : x = y := by
  have := h xs hs
  rw [hy] at this; cases this; rfl
theorem yld_sq (S : Src K A F' k a xs ds) : Yld K (Isq K k a) A ds := by
  intro F2 H2 ha g i
  have hs := S.at_ F2 H2 ha g
  refine ⟨fun d hd => ?_, fun hi => ?_⟩
  · obtain ⟨v, hv, rv⟩ := S.rep.get' hd
    have rv := rv.mono (S.le F2 H2 ha)
    cases k with
    | l => exact ⟨⟨xs, v, hs, hv⟩, fun x H'' ⟨e, hx⟩ => by subst e; exact ⟨F2, Ext.refl g, (sq_inj (k := .l) hx hs hv) ▸ rv⟩⟩
    | t => exact ⟨⟨xs, v, hs, hv⟩, fun x H'' ⟨e, hx⟩ => by subst e; exact ⟨F2, Ext.refl g, (sq_inj (k := .t) hx hs hv) ▸ rv⟩⟩
  · cases k with
    | l => exact ⟨xs, hs, by rw [S.rep.length]; exact hi⟩
    | t => exact ⟨xs, hs, by rw [S.rep.length]; exact hi⟩
def zipD : List D → List D → List D
  | d :: ds, e :: es => .tup [d, e] :: zipD ds es
  | _, _ => []
theorem zipD_get : ∀ {ds es : List D} {i : Nat} {z : D}, (zipD ds es)[i]? = some z → ∃ d e, ds[i]? = some d ∧ es[i]? = some e ∧ z = .tup [d, e]
  | [], _, i, z, h => by simp [zipD] at h
  | _ :: _, [], i, z, h => by simp [zipD] at h
  | d :: ds, e :: es, 0, z, h => by simp [zipD] at h; exact ⟨d, e, rfl, rfl, h.symm⟩
  | d :: ds, e :: es, i + 1, z, h => by
    obtain ⟨d', e', h1, h2, h3⟩ := zipD_get (ds := ds) (es := es) (i := i) (by simpa [zipD] using h)
    exact ⟨d', e', by simpa using h1, by simpa using h2, h3⟩
theorem zipD_len : ∀ ds es : List D, (zipD ds es).length = min ds.length es.length
  | [], _ => by simp [zipD]
  | _ :: _, [] => by simp [zipD]
  | d :: ds, e :: es => by simp only [zipD, List.length_cons, zipD_len ds es]; omega
theorem yld_zip (S1 : Src K A F' k1 a xs ds) (S2 : Src K A F' k2 b ys es) : Yld K (Izm K k1 k2 a b) A (zipD ds es) := by
  intro F2 H2 ha g i
  have h1 := S1.at_ F2 H2 ha g
  have h2 := S2.at_ F2 H2 ha g
  refine ⟨fun z hz => ?_, fun hi => ?_⟩
  · obtain ⟨d, e, hd, he, rfl⟩ := zipD_get hz
    obtain ⟨v, hv, rv⟩ := S1.rep.get' hd
    obtain ⟨u, hu, ru⟩ := S2.rep.get' he
    refine ⟨⟨xs, ys, v, u, h1, h2, hv, hu⟩, fun x H'' ⟨T, x', y', e1, nT, e2, f1, f2⟩ => ?_⟩
    subst e1 e2
    have le := (S1.le F2 H2 ha).trans (Fz.le_add (o := .tup [x', y']) (g.free nT).1)
    refine ⟨F2.add T (.tup [x', y']), Ext.addNew g nT, .tup (.of upd_same) (.cons ?_ (.cons ?_ .nil))⟩
    · exact (sq_inj f1 h1 hv) ▸ rv.mono le
    · exact (sq_inj f2 h2 hu) ▸ ru.mono le
  · rw [zipD_len] at hi
    have l1 := S1.rep.length
    have l2 := S2.rep.length
    exact ⟨xs, ys, h1, h2, by omega⟩
def enumD : Nat → List D → List D
  | _, [] => []
  | n, d :: ds => .tup [.int (n : Nat), d] :: enumD (n + 1) ds
theorem enumD_get : ∀ {ds : List D} {n i : Nat} {z : D}, (enumD n ds)[i]? = some z → ∃ d, ds[i]? = some d ∧ z = .tup [.int ((n + i : Nat) : Int), d]
  | [], n, i, z, h => by simp [enumD] at h
  | d :: ds, n, 0, z, h => by simp [enumD] at h; exact ⟨d, rfl, h.symm⟩
  | d :: ds, n, i + 1, z, h => by
    obtain ⟨d', h1, h2⟩ := enumD_get (ds := ds) (n := n + 1) (i := i) (by simpa [enumD] using h)
    exact ⟨d', by simpa using h1, by rw [h2, show n + 1 + i = n + (i + 1) by omega]⟩
theorem enumD_len : ∀ (ds : List D) (n : Nat), (enumD n ds).length = ds.length
  | [], n => rfl
  | d :: ds, n => by simp only [enumD, List.length_cons, enumD_len ds]
theorem yld_enum (S : Src K A F' k a xs ds) : Yld K (Iem K k a) A (enumD 0 ds) := by
  intro F2 H2 ha g i
  have h1 := S.at_ F2 H2 ha g
  refine ⟨fun z hz => ?_, fun hi => ?_⟩
  · obtain ⟨d, hd, rfl⟩ := enumD_get hz
    obtain ⟨v, hv, rv⟩ := S.rep.get' hd
    refine ⟨⟨xs, v, h1, hv⟩, fun x H'' ⟨T, x', e1, nT, e2, f1⟩ => ?_⟩
    subst e1 e2
    have le := (S.le F2 H2 ha).trans (Fz.le_add (o := .tup [.int (i : Nat), x']) (g.free nT).1)
    refine ⟨F2.add T (.tup [.int (i : Nat), x']), Ext.addNew g nT, .tup (.of upd_same) (.cons ?_ (.cons ?_ .nil))⟩
    · rw [Nat.zero_add]; exact .int _
    · exact (sq_inj f1 h1 hv) ▸ rv.mono le
  · rw [enumD_len] at hi
    exact ⟨xs, h1, by rw [S.rep.length]; exact hi⟩
def rangeD (lo hi : Int) : List D := (List.range (hi - lo).toNat).map fun i => .int (lo + (i : Nat))
theorem yld_range {lo hi : Int} : Yld K (Itr lo (hi - lo).toNat) A (rangeD lo hi) := by
  intro F2 H2 ha g i
  refine ⟨fun z hz => ?_, fun hi => ?_⟩
  · unfold rangeD at hz
    rw [List.getElem?_map] at hz
    by_cases h : i < (hi - lo).toNat
    · rw [List.getElem?_range h] at hz
      cases hz
      exact ⟨h, fun x H'' ⟨e1, e2⟩ => by subst e1 e2; exact ⟨F2, Ext.refl g, .int _⟩⟩
    · rw [List.getElem?_eq_none (by simpa using h)] at hz; cases hz
  · unfold rangeD at hi
    rw [List.length_map, List.length_range] at hi
    exact hi
def seqOf : D → Tree (List D)
  | .lst ds => leaf ds
  | .tup ds => leaf ds
  | .scr ns => leaf (ns.map .int)
  | _ => fail
theorem reps_ints {F : Fz} : ∀ ns : List Int, Reps K F (ns.map V.int) (ns.map D.int)
  | [] => .nil
  | n :: ns => .cons (.int n) (reps_ints ns)
theorem src_rep {v : V} {d : D} {Q : List D → Prop} (r : Rep K F' v d) (q : (seqOf d).all Q) : ∃ k a xs ds, v = .ref a ∧ Q ds ∧ Src K (fun F2 _ => F'.Le F2) F' k a xs ds := by
  unfold seqOf at q
  split at q
  · cases r with
    | lst h rs => exact ⟨.l, _, _, _, rfl, q, fun F2 H2 l g => .of (g.sub _ _ (l.p _ _ h)), fun _ _ l => l, rs⟩
  · cases r with
    | tup h rs => exact ⟨.t, _, _, _, rfl, q, fun F2 H2 l g => sqT_same g.sub (h.same l.p).sq, fun _ _ l => l, rs⟩
  · cases r with
    | scr h => exact ⟨.l, _, _, _, rfl, q, fun F2 H2 l g => g.sub.seq (l.p.seq h), fun _ _ l => l, reps_ints _⟩
  · exact q.elim
theorem src_pk {H' : Hp} {v : V} {d : D} {Q : List D → Prop} (p : Pk K F' H' v d) (q : (seqOf d).all Q) : ∃ k a xs ds, v = .ref a ∧ Q ds ∧ Src K (fun F2 H2 => Ext F' H' F2 H2) F' k a xs ds := by
  cases p with
  | rep r =>
    obtain ⟨k, a, xs, ds, h1, h2, h3⟩ := src_rep r q
    exact ⟨k, a, xs, ds, h1, h2, fun F2 H2 e g => h3.at_ F2 H2 e.le g, fun _ _ e => e.le, h3.rep⟩
  | own h t n rs => exact ⟨.l, _, _, _, rfl, q, fun F2 H2 e g => .of (own_ext e h n t).1, fun _ _ e => e.le, rs⟩
end
section
variable {X : Cx} {tg e e2 : Expr} {m m' : En → Tree D} {p pos : Pos}
def mSeq (m : En → Tree D) : En → Tree (List D) := fun E => (m E).bind seqOf
theorem si_seq (h : SE X e m) : SI X tg e (mSeq m) := ⟨_, pi_sq h.pe, fun σ H R ⟨B, F, E, g, r, q⟩ => ⟨B, F, E, g, r, Tree.all_mono (fun d k v F' H' e rv => by
  obtain ⟨k', a, xs, ds, h1, h2, h3⟩ := src_rep rv k
  exact ⟨k', a, xs, h1, h3.at_ F' H' (Fz.Le.refl _) e.good, h2 _ F' H' e (yld_sq h3)⟩) (Tree.all_bind.mp q)⟩⟩
theorem sip_seq (h : SP X e m) : SIp X tg e (mSeq m) := ⟨_, pi_sq h.pe, fun σ H R ⟨B, F, E, g, r, q⟩ => ⟨B, F, E, g, r, Tree.all_mono (fun d k v F' H' e rv => by
  obtain ⟨k', a, xs, ds, h1, h2, h3⟩ := src_pk rv k
  exact ⟨k', a, xs, h1, h3.at_ F' H' (Ext.refl e.good) e.good, h2 _ F' H' e (yld_sq h3)⟩) (Tree.all_bind.mp q)⟩⟩
def rOk (j : Int) : Bool := decide (-(2 ^ 62) ≤ j) && decide (j < 2 ^ 62)
theorem rOk_of {j : Int} (h : rOk j = true) : -(2 ^ 62) ≤ j ∧ j < 2 ^ 62 := by
  unfold rOk at h
  simpa only [Bool.and_eq_true, decide_eq_true_eq] using h
def mRange1 (m : En → Tree D) : En → Tree (List D) := fun E => (m E).bind fun d => match d with
  | .int j => if rOk j = true then leaf (rangeD 0 j) else fail
  | _ => fail
def mRange2 (m m' : En → Tree D) : En → Tree (List D) := fun E => (m E).bind fun d => (m' E).bind fun d' => match d, d' with
  | .int i, .int j => if (rOk i && rOk j) = true then leaf (rangeD i j) else fail
  | _, _ => fail
theorem si_range1 (hg : Gl X "range") (hm : X.mg "range" = none) (ha : SP X e m) (hs : starEach [e] X.env = [(false, eval e X.env)] := by rfl) : SI X tg (.Call (.Name "range" p) [e] [] pos) (mRange1 m) := by
  refine ⟨_, pi_range1 hg hm (pa_cons ha.pe pa_nil hs) hs, fun σ H R ⟨B, F, E, g, r, q⟩ => ⟨B, F, E, g, r, Tree.all_mono (fun d k v F' H' e pv => ?_) (Tree.all_bind.mp q)⟩⟩
  cases d with
  | int j =>
    cases pv.int
    have k : (if rOk j = true then leaf (rangeD 0 j) else fail).all _ := k
    by_cases h : rOk j = true
    · rw [if_pos h] at k
      obtain ⟨h1, h2⟩ := rOk_of h
      refine ⟨j, rfl, h1, h2, k _ F' H' e ?_⟩
      have y : Yld X.K (Itr 0 (j - 0).toNat) (fun F2 _ => F'.Le F2) (rangeD 0 j) := yld_range
      rw [Int.sub_zero] at y
      exact y
    · rw [if_neg h] at k
      exact k.elim
  | _ => exact False.elim k
theorem si_range2 (hg : Gl X "range") (hm : X.mg "range" = none) (ha : SP X e m) (hb : SP X e2 m') (hs : starEach [e, e2] X.env = [(false, eval e X.env), (false, eval e2 X.env)] := by rfl) (hs2 : starEach [e2] X.env = [(false, eval e2 X.env)] := by rfl) :
    SI X tg (.Call (.Name "range" p) [e, e2] [] pos) (mRange2 m m') := by
  refine ⟨_, pi_range2 hg hm (pa_cons ha.pe (pa_cons hb.pe pa_nil hs2) (hs.trans (by rw [hs2]))) hs hs2, fun σ H R ⟨B, F, E, g, r, q⟩ => ⟨B, F, E, g, r, Tree.all_mono (fun d k v F1 H1 e1 pv => ⟨B, F1, E, e1.good, r.ext e1, Tree.all_mono (fun d' k v' F' H' e pv' => ?_) (Tree.all_bind.mp k)⟩) (Tree.all_bind.mp q)⟩⟩
  have pv := pv.ext e
  cases d with
  | int i =>
    cases d' with
    | int j =>
      cases pv.int
      cases pv'.int
      have k : (if (rOk i && rOk j) = true then leaf (rangeD i j) else fail).all _ := k
      by_cases h : (rOk i && rOk j) = true
      · rw [if_pos h] at k
        rw [Bool.and_eq_true] at h
        obtain ⟨h1, h2⟩ := rOk_of h.1
        obtain ⟨h3, h4⟩ := rOk_of h.2
        exact ⟨i, j, rfl, ⟨h1, h2, h3, h4⟩, k _ F' H' (e1.trans e) yld_range⟩
      · rw [if_neg h] at k
        exact k.elim
    | _ => exact False.elim k
  | _ => exact False.elim k
def mZip (m m' : En → Tree D) : En → Tree (List D) := fun E => (m E).bind fun d => (m' E).bind fun d' => (seqOf d).bind fun ds => (seqOf d').bind fun es => leaf (zipD ds es)
def mEnum (m : En → Tree D) : En → Tree (List D) := fun E => (m E).bind fun d => (seqOf d).bind fun ds => leaf (enumD 0 ds)
variable {elts : List Expr} {kk : Nat} {tpos : Pos}
theorem si_zip (hg : Gl X "zip") (hm : X.mg "zip" = none) (ha : SE X e m) (hb : SE X e2 m') (hs : starEach [e, e2] X.env = (false, eval e X.env) :: starEach [e2] X.env := by rfl) (hs2 : starEach [e2] X.env = (false, eval e2 X.env) :: starEach [] X.env := by rfl)
    (hpl : (backTo pos (starEach [e2] X.env)).any (·.1) = false := by rfl) : SI X (.Tuple elts kk tpos) (.Call (.Name "zip" p) [e, e2] [] pos) (mZip m m') := by
  refine ⟨_, pi_zm hg hm (pa_cons ha.pe (pa_cons hb.pe pa_nil hs2) hs) hs hpl, fun σ H R ⟨B, F, E, g, r, q⟩ => ⟨B, F, E, g, r, Tree.all_mono (fun d k v F1 H1 e1 pv => ⟨B, F1, E, e1.good, r.ext e1, Tree.all_mono (fun d' k v' F' H' e pv' => ?_) (Tree.all_bind.mp k)⟩) (Tree.all_bind.mp q)⟩⟩
  obtain ⟨k1, a, xs, ds, rfl, k, s1⟩ := src_rep (pv.mono e.le) (Tree.all_bind.mp k)
  obtain ⟨k2, b, ys, es, rfl, k, s2⟩ := src_rep pv' (Tree.all_bind.mp k)
  exact ⟨a, b, k1, k2, xs, ys, rfl, s1.at_ F' H' (Fz.Le.refl _) e.good, s2.at_ F' H' (Fz.Le.refl _) e.good, k _ F' H' (e1.trans e) (yld_zip s1 s2)⟩
theorem si_enum (hg : Gl X "enumerate") (hm : X.mg "enumerate" = none) (ha : SE X e m) (hs : starEach [e] X.env = [(false, eval e X.env)] := by rfl) : SI X (.Tuple elts kk tpos) (.Call (.Name "enumerate" p) [e] [] pos) (mEnum m) := by
  refine ⟨_, pi_em hg hm (pa_cons ha.pe pa_nil hs) hs, fun σ H R ⟨B, F, E, g, r, q⟩ => ⟨B, F, E, g, r, Tree.all_mono (fun d k v F' H' e pv => ?_) (Tree.all_bind.mp q)⟩⟩
  obtain ⟨k1, a, xs, ds, rfl, k, s1⟩ := src_rep pv (Tree.all_bind.mp k)
  exact ⟨k1, a, xs, rfl, s1.at_ F' H' (Fz.Le.refl _) e.good, k _ F' H' e (yld_enum s1)⟩
theorem sip_zip (hg : Gl X "zip") (hm : X.mg "zip" = none) (ha : SP X e m) (hb : SP X e2 m') (hs : starEach [e, e2] X.env = (false, eval e X.env) :: starEach [e2] X.env := by rfl) (hs2 : starEach [e2] X.env = (false, eval e2 X.env) :: starEach [] X.env := by rfl)
    (hpl : (backTo pos (starEach [e2] X.env)).any (·.1) = false := by rfl) : SIp X (.Tuple elts kk tpos) (.Call (.Name "zip" p) [e, e2] [] pos) (mZip m m') := by
  refine ⟨_, pi_zm hg hm (pa_cons ha.pe (pa_cons hb.pe pa_nil hs2) hs) hs hpl, fun σ H R ⟨B, F, E, g, r, q⟩ => ⟨B, F, E, g, r, Tree.all_mono (fun d k v F1 H1 e1 pv => ⟨B, F1, E, e1.good, r.ext e1, Tree.all_mono (fun d' k v' F' H' e pv' => ?_) (Tree.all_bind.mp k)⟩) (Tree.all_bind.mp q)⟩⟩
  obtain ⟨k1, a, xs, ds, rfl, k, s1⟩ := src_pk (pv.ext e) (Tree.all_bind.mp k)
  obtain ⟨k2, b, ys, es, rfl, k, s2⟩ := src_pk pv' (Tree.all_bind.mp k)
  exact ⟨a, b, k1, k2, xs, ys, rfl, s1.at_ F' H' (Ext.refl e.good) e.good, s2.at_ F' H' (Ext.refl e.good) e.good, k _ F' H' (e1.trans e) (yld_zip s1 s2)⟩
theorem sip_enum (hg : Gl X "enumerate") (hm : X.mg "enumerate" = none) (ha : SP X e m) (hs : starEach [e] X.env = [(false, eval e X.env)] := by rfl) : SIp X (.Tuple elts kk tpos) (.Call (.Name "enumerate" p) [e] [] pos) (mEnum m) := by
  refine ⟨_, pi_em hg hm (pa_cons ha.pe pa_nil hs) hs, fun σ H R ⟨B, F, E, g, r, q⟩ => ⟨B, F, E, g, r, Tree.all_mono (fun d k v F' H' e pv => ?_) (Tree.all_bind.mp q)⟩⟩
  obtain ⟨k1, a, xs, ds, rfl, k, s1⟩ := src_pk pv (Tree.all_bind.mp k)
  exact ⟨k1, a, xs, rfl, s1.at_ F' H' (Ext.refl e.good) e.good, k _ F' H' e (yld_enum s1)⟩

/-! ### an own list at a name is changed -/
theorem own_put {K : PySem.W.Frag} {F0 F : Fz} {H0 H : Hp} {σ : L2.St} {E : En} {i : Nat} {ds es : List D} {ys : List V} (e : Ext F0 H0 F H) (r : RelE K (B0 H0) F H σ E) (hi : E[i]? = some (some ⟨true, .lst ds⟩)) (ry : Reps K F ys es) :
    ∃ a xs, σ[i]? = some (some (.ref a)) ∧ H a = some (.lst xs) ∧ Reps K F xs ds ∧ (Ext F0 H0 F (upd H a (.lst ys)) ∧ RelE K (B0 H0) F (upd H a (.lst ys)) σ (E.putOwn i (.lst es))) := by
  obtain ⟨a, xs, ds', h1, h2, h3, h4, h5, h6, h7⟩ := r.own i _ hi
  cases h2
  refine ⟨a, xs, h1, h3, h4, e.write h5 h6 h7 ⟨_, h3⟩, ?_⟩
  have hl : i < E.length := (List.getElem?_eq_some_iff.mp hi).1
  refine ⟨by simp [r.len, En.putOwn], fun j d hj => ?_, fun j d hj => ?_, fun j k x y c hjk hx hy ha hb => ?_⟩
  · by_cases q : i = j
    · subst q; rw [En.putOwn, List.getElem?_set_self hl] at hj; cases hj
    · rw [En.putOwn, List.getElem?_set_ne q] at hj; exact r.val j d hj
  · by_cases q : i = j
    · subst q
      rw [En.putOwn, List.getElem?_set_self hl] at hj; cases hj
      exact ⟨a, ys, es, h1, rfl, upd_same, ry, h5, h6, h7⟩
    · rw [En.putOwn, List.getElem?_set_ne q] at hj
      obtain ⟨b, zs, fs, g1, g2, g3, g4, g5, g6, g7⟩ := r.own j d hj
      have ne : b ≠ a := fun z => by subst z; exact r.dist i j _ _ b q hi hj h1 g1
      exact ⟨b, zs, fs, g1, g2, by rw [upd_ne ne]; exact g3, g4, g5, g6, g7⟩
  · have fix : ∀ (j : Nat) (d : D), (En.putOwn E i (.lst es))[j]? = some (some ⟨true, d⟩) → ∃ d', E[j]? = some (some ⟨true, d'⟩) := fun j d hj => by
      by_cases q : i = j
      · subst q; exact ⟨_, hi⟩
      · rw [En.putOwn, List.getElem?_set_ne q] at hj; exact ⟨_, hj⟩
    obtain ⟨x', hx'⟩ := fix j x hx
    obtain ⟨y', hy'⟩ := fix k y hy
    exact r.dist j k x' y' c hjk hx' hy' ha hb
def mOwn (i : Nat) (E : En) (k : List D → Tree Out) : Tree Out := match E[i]? with
  | some (some ⟨true, .lst ds⟩) => k ds
  | _ => fail
theorem mOwn_all {i : Nat} {E : En} {k : List D → Tree Out} {P : Out → Prop} (h : (mOwn i E k).all P) : ∃ ds, E[i]? = some (some ⟨true, .lst ds⟩) ∧ (k ds).all P := by
  unfold mOwn at h
  split at h
  · exact ⟨_, by assumption, h⟩
  · exact h.elim
/-- x[e] = v, x an own list -/
def oStore (i : Nat) (mi mv : En → Tree D) : En → Tree Out := fun E => (mv E).bind fun v => mOwn i E fun _ => (mi E).bind fun d => match d with
  | .int k => mOwn i E fun ds => match ixN ds.length k with
    | some j => leaf (.nx (E.putOwn i (.lst (ds.set j v))))
    | none => fail
  | _ => fail
theorem s_store {i : Nat} {x : Str} {px pos' : Pos} {ei ev : Expr} {mi mv : En → Tree D} (he : SE X ev mv)
    (h1 : PG X (.Subscript (.Name x px) ei pos') (gSub (tVar i) (tP X.K mi) rSetL))
    (hs : swapsWithSole [.Subscript (.Name x px) ei pos'] ev pos.line X.env = pure false := by rfl) (hw : swappedStores [.Subscript (.Name x px) ei pos'] ev X.env = pure none := by rfl)
    (h2 : (assignEach [.Subscript (.Name x px) ei pos'] X.env).map (·.2) = [assign (.Subscript (.Name x px) ei pos') X.env] := by rfl) : SS X (.Assign [.Subscript (.Name x px) ei pos'] ev pos) (oStore i mi mv) := by
  refine ⟨PS.weak (ps_asg he.pe h1 hs hw h2) fun D0 σ H ⟨F0, H0, F, E, e, r, q⟩ => ?_⟩
  refine exprIn e r (Tree.all_mono (fun d k v F1 H1 e1 l1 r1 p1 => ?_) (Tree.all_bind.mp q))
  obtain ⟨ds0, o0, k⟩ := mOwn_all k
  obtain ⟨a, xs, _, g1, _, _, _, _⟩ := r1.own i _ o0
  refine ⟨.ref a, g1, B0 H0, F1, E, e1.good, r1, Tree.all_mono (fun d' k v' F2 H2 e2 p2 => ?_) (Tree.all_bind.mp k)⟩
  cases d' with
  | int kk =>
    have k : (mOwn i E fun ds => match ixN ds.length kk with | some j => leaf (.nx (E.putOwn i (.lst (ds.set j d)))) | none => fail).all (Post X.K F0 H0 F D0) := k
    obtain ⟨ds, o1, k⟩ := mOwn_all k
    have r2 := r1.ext e2
    cases hj : ixN ds.length kk with
    | none => rw [hj] at k; exact k.elim
    | some j =>
      rw [hj] at k
      obtain ⟨a', xs', ds', z1, zeq, z2, z3, _⟩ := r2.own i _ o1
      cases zeq
      rw [g1] at z1; cases z1
      have rs := z3.set (p1.mono e2.le) j
      obtain ⟨a2, xs2, y1, y2, y3, y4, y5⟩ := own_put (e1.trans e2) r2 o1 rs
      rw [g1] at y1; cases y1
      rw [z2] at y2; cases y2
      cases p2.int
      exact ⟨a, xs', kk, j, rfl, rfl, z2, by rw [z3.length]; exact hj, k σ F2 _ y4 (l1.trans e2.le) y5⟩
  | _ => exact False.elim k
/-- x.append(e), x an own list -/
def oApp (i : Nat) (mv : En → Tree D) : En → Tree Out := fun E => mOwn i E fun _ => (mv E).bind fun v => mOwn i E fun ds => if ds.length < sizeLine then leaf (.nx (E.putOwn i (.lst (ds ++ [v])))) else fail
end
end R

set_option Elab.async false
set_option linter.all false
set_option maxRecDepth 100000
namespace R
open PySem PySem.Spec PyProof.Rows L2
open Tree (leaf fail)
section
variable {X : Cx} {e e2 : Expr} {m m' : En → Tree D} {p p2 q pos pos' : Pos} {x : Str}
/-- x.append(e), x an own list -/
theorem s_app {i : Nat} {px apos cpos : Pos} {mv : En → Tree D} (hv : PE X (.Name x px) (tVar i)) (he : SE X e mv)
    (hb : attributeBase (.Name x px) "append" X.env (eval (.Name x px) X.env) = eval (.Name x px) X.env := by rfl) (hl : (apos.endLine == cpos.line) = true := by rfl)
    (hfew : ((backTo cpos (starEach [e] X.env)).all (fun x => !x.1) && (backToKw cpos (keywordEach [] X.env)).all (fun x => x.1.isSome) && decide (([e] : List Expr).length + ([] : List Keyword).length + (if ([] : List Keyword).isEmpty then 0 else 1) < 30)) = true := by rfl)
    (hs : starEach [e] X.env = (false, eval e X.env) :: starEach [] X.env := by rfl) (hw : swapsWith (.Call (.Attribute (.Name x px) "append" apos) [e] [] cpos) none pos.line X.env = pure false := by rfl) :
    SS X (.Expr (.Call (.Attribute (.Name x px) "append" apos) [e] [] cpos) pos) (oApp i mv) := by
  refine ⟨PS.weak (ps_expr (pe_bm PySem.F.plainAttrs_list PySem.F.slot_list_append PySem.F.type_list_append mt_append hv (pa_cons he.pe pa_nil hs) hb hfew hl hs (by rfl)) hw) fun D0 σ H ⟨F0, H0, F, E, ex, r, q⟩ => ?_⟩
  obtain ⟨ds0, o0, q⟩ := mOwn_all q
  obtain ⟨a, xs, _, g1, _, g3, _, _⟩ := r.own i _ o0
  refine ⟨.ref a, g1, .inl ⟨rfl, xs, .of g3⟩, B0 H0, F, E, ex.good, r, Tree.all_mono (fun d k v F1 H1 e1 p1 => ?_) (Tree.all_bind.mp q)⟩
  obtain ⟨ds, o1, k⟩ := mOwn_all k
  have r1 := r.ext e1
  obtain ⟨a', xs', ds', z1, zeq, z2, z3, _⟩ := r1.own i _ o1
  cases zeq
  rw [g1] at z1; cases z1
  split at k
  · rename_i hlen
    obtain ⟨a2, xs2, y1, y2, y3, y4, y5⟩ := own_put (ex.trans e1) r1 o1 (z3.append (.cons p1 .nil))
    rw [g1] at y1; cases y1
    rw [z2] at y2; cases y2
    exact ⟨a, xs', v, rfl, rfl, z2, by rw [z3.length]; exact hlen, k σ F1 _ y4 e1.le y5⟩
  · exact k.elim

/-! ### keywords -/
structure SK_ (X : Cx) (kws : List Keyword) (m : En → Tree (List D)) : Prop where
  pk : PK X kws (tA X.K m)
theorem sk_nil : SK_ X [] aNil := ⟨⟨fun pos pins s σ H Q I ⟨B, F, E, g, r, q⟩ => pk_nil.run pos pins s σ H Q I (q [] F H (Ext.refl g) .nil)⟩⟩
theorem sk_cons {nm : Option Str} {kpos : Pos} {kws : List Keyword} {n : En → Tree (List D)} (ha : SE X e m) (hr : SK_ X kws n) : SK_ X (⟨nm, e, kpos⟩ :: kws) (aCons m n) :=
  ⟨⟨fun pos pins s σ H Q I ⟨B, F, E, g, r, q⟩ => (pk_cons ha.pe hr.pk).run pos pins s σ H Q I ⟨B, F, E, g, r, Tree.all_mono (fun d k v F1 H1 e1 p1 => ⟨B, F1, E, e1.good, r.ext e1, Tree.all_mono (fun ds k vs F2 H2 e2 p2 => k (v :: vs) F2 H2 (e1.trans e2) (.cons (p1.mono e2.le) p2)) (Tree.all_bind.mp k)⟩) (Tree.all_bind.mp q)⟩⟩⟩
/-- the keywords' values in the parameters' order: is: the place of each parameter among them -/
def permD (is : List Nat) (ds : List D) : List D := is.filterMap fun i => ds[i]?
theorem perm_rep {K : PySem.W.Frag} {F : Fz} {vs : List V} {ds : List D} (r : Reps K F vs ds) : ∀ is : List Nat, Reps K F (is.filterMap fun i => vs[i]?) (is.filterMap fun i => ds[i]?)
  | [] => .nil
  | i :: is => by
    rw [List.filterMap_cons, List.filterMap_cons]
    cases h : vs[i]? with
    | none =>
      have hd : ds[i]? = none := by rw [List.getElem?_eq_none_iff] at h ⊢; rw [← r.length]; exact h
      rw [hd]; exact perm_rep r is
    | some v =>
      obtain ⟨d, h1, h2⟩ := r.get h
      rw [h1]; exact .cons h2 (perm_rep r is)
theorem perm_vals {vs : List V} {us : List Value} (r : Vals vs us) : ∀ is : List Nat, Vals (is.filterMap fun i => vs[i]?) (is.filterMap fun i => us[i]?)
  | [] => .nil
  | i :: is => by
    rw [List.filterMap_cons, List.filterMap_cons]
    cases h : vs[i]? with
    | none => rw [r.none_of h]; exact perm_vals r is
    | some v =>
      obtain ⟨u, h1, h2⟩ := r.get h
      rw [h1]; exact .cons h2 (perm_vals r is)
/-- f(k = v, ..), all by keyword -/
structure KwBinds (K : PySem.W.Frag) (fd : FuncData) (ps ks : List Str) (is : List Nat) : Prop where
  to : ∀ (s : Shared) (ws : List Value), K.In s.heap → (is.filterMap fun i => ws[i]?).length = ps.length → BindsTo s fd ⟨[], ks.zip ws⟩ (ps.zip (is.filterMap fun i => ws[i]?))
theorem se_callKw {k : Nat} {f : Addr} {fd : FuncData} {ps ks : List Str} {fn : List D → Tree D} {kws : List Keyword} {is : List Nat} {mk : En → Tree (List D)} (F : FnOk X.prog X.w X.K X.mg X.base CX0 k f fd ps (spF X.K fn)) (hr : Room k X.A) (hg : Gl X x) (hm : X.mg x = some (.ref f)) (hk : PySem.W.keepIn X.K (.ref f) = true)
    (hb : KwBinds X.K fd ps ks is) (hkw : SK_ X kws mk) (hall : (backToKw pos (keywordEach kws X.env)).all (·.1.isSome) = true := by rfl) (hks : (backToKw pos (keywordEach kws X.env)).filterMap (·.1) = ks := by rfl) (hdb : (x == ("__debug__" : Str)) = false := by decide)
    (hpl : ((backTo pos (starEach [] X.env)).any (·.1) || (backToKw pos (keywordEach kws X.env)).any (·.1.isNone)) = false := by rfl) :
    SE X (.Call (.Name x p) [] kws pos) (mA (fun ds => fn (permD is ds)) mk) := by
  refine ⟨⟨fun pins s σ H Q I ⟨B, F', E, g, rl, q⟩ => ?_⟩⟩
  refine wpAny_Call_Name_kw (ld_glob I hg hm ?_ hdb)
  refine PySem.W.callWith_KW0 (h₀ := X.base) I.ok.mod.kin hk hall (thn (hkw.pk.run pos pins s σ H (fun vs H1 => spF X.K fn (is.filterMap fun i => vs[i]?) H1 Q E0) I ⟨B, F', E, g, rl, Tree.all_mono (fun ds k vs F1 H1 e1 p1 => ?_) (Tree.all_bind.mp q)⟩) fun ws s2 ⟨zs, H2, I2, rz, q2⟩ => ⟨I2.kIn, ?_⟩) hpl
  · exact ⟨F1, permD is ds, e1.good, perm_rep p1 is, Tree.all_mono (fun z kz w F2 H2 e2 rz => kz w F2 H2 (e1.trans e2) rz) k⟩
  · rw [hks]
    have r2 := perm_vals rz is
    have hl := r2.length.symm.trans (F.len _ _ _ _ q2)
    refine wpAny_call (codeAny_mono (F.run X.A X.stack s2 H2 ⟨[], ks.zip ws⟩ _ _ Q E0 hr I2.env0 (hb.to s2 ws I2.kIn hl) r2 q2) fun r s' hq => ?_)
    cases r with
    | error e => exact False.elim hq
    | ok fl =>
      cases fl with
      | ret u => exact I2.after hq
      | next => exact False.elim hq
      | brk => exact False.elim hq
      | cont => exact False.elim hq

/-! ### len(set(x)), distinct ints -/
def nodupB : List Int → Bool
  | [] => true
  | n :: ns => !ns.contains n && nodupB ns
theorem nodup_of : ∀ {ns : List Int}, nodupB ns = true → ns.Nodup
  | [], _ => .nil
  | n :: ns, h => by
    unfold nodupB at h
    rw [Bool.and_eq_true, Bool.not_eq_true'] at h
    exact List.nodup_cons.mpr ⟨fun m => absurd (List.contains_iff_mem.mpr m) (by rw [h.1]; exact Bool.false_ne_true), nodup_of h.2⟩
def fLenSet : D → Tree D
  | .lst ds => withO (intsD ds) fun ns => if (nodupB ns && decide (ns.length ≤ 4000)) = true then leaf (.int ns.length) else fail
  | _ => fail
theorem se_lenset (hg : Gl X "len") (hm : X.mg "len" = none) (hg2 : Gl X "set") (hm2 : X.mg "set" = none) (ha : SP X e m) (hc : X.calm = true := by rfl) (na : starEach [e] X.env = (false, eval e X.env) :: starEach [] X.env := by rfl) :
    SE X (.Call (.Name "len" p) [.Call (.Name "set" p2) [e] [] q] [] pos) (m1 fLenSet m) := by
  refine ⟨PE.weak (RZ.pe_lenSetI hg hm hg2 hm2 ha.pe hc na) fun σ H Q ⟨B, F, E, g, rl, q⟩ => ?_⟩
  refine ⟨B, F, E, g, rl, Tree.all_mono (fun d k v F1 H1 e1 p1 => ?_) (Tree.all_bind.mp q)⟩
  unfold fLenSet at k
  split at k
  · obtain ⟨a, xs, rfl, h1, r1⟩ := p1.lst e1.good
    unfold withO at k
    split at k
    · rename_i ns hn
      have := ints_of hn r1
      subst this
      have k : (if (nodupB ns && decide (ns.length ≤ 4000)) = true then leaf (D.int ns.length) else fail).all _ := k
      by_cases h : (nodupB ns && decide (ns.length ≤ 4000)) = true
      · rw [if_pos h] at k
        rw [Bool.and_eq_true, decide_eq_true_eq] at h
        exact ⟨a, ns, rfl, .of h1, nodup_of h.1, h.2, k _ F1 H1 e1 (.int _)⟩
      · rw [if_neg h] at k
        exact k.elim
    · exact k.elim
  · exact k.elim
/-! ### list(range(..)) -/
def rgOk (n : Int) : Bool := decide (0 ≤ n) && decide (n ≤ 16777216)
theorem rgV_rep {K : PySem.W.Frag} {F : Fz} (i j : Int) : Reps K F (rgV i j) (rangeD i j) := by
  unfold rgV rangeD
  generalize (List.range (j - i).toNat) = l
  induction l with
  | nil => exact .nil
  | cons a l ih => exact .cons (.int _) ih
theorem sl_listrg2 (hc : X.calm = true) (hg : Gl X "list") (hm : X.mg "list" = none) (hg2 : Gl X "range") (hm2 : X.mg "range" = none) (ha : SP X e m) (hb : SP X e2 m') (na : starEach [e, e2] X.env = (false, eval e X.env) :: starEach [e2] X.env := by rfl)
    (nb : starEach [e2] X.env = (false, eval e2 X.env) :: starEach [] X.env := by rfl) (hp : (backTo q (starEach [e2] X.env)).any (·.1) = false := by rfl) (n1 : starEach [.Call (.Name "range" p2) [e, e2] [] q] X.env = (false, eval (.Call (.Name "range" p2) [e, e2] [] q) X.env) :: starEach [] X.env := by rfl) :
    SL X (.Call (.Name "list" p) [.Call (.Name "range" p2) [e, e2] [] q] [] pos) (fun E => (m E).bind fun d => (m' E).bind fun d' => match d, d' with
      | .int i, .int j => if (rgOk i && rgOk j) = true then leaf (rangeD i j) else fail
      | _, _ => fail) := by
  refine ⟨PE.weak (pe_listRg hc hg hm (prg_2 hg2 hm2 ha.pe hb.pe na nb hp) n1) fun σ H Q ⟨B, F, E, g, rl, q⟩ => ?_⟩
  refine ⟨B, F, E, g, rl, Tree.all_mono (fun d k v F1 H1 e1 p1 => ⟨B, F1, E, e1.good, rl.ext e1, Tree.all_mono (fun d' k v' F2 H2 e2 p2 => ?_) (Tree.all_bind.mp k)⟩) (Tree.all_bind.mp q)⟩
  have p1 := p1.ext e2
  cases d with
  | int i =>
    cases d' with
    | int j =>
      cases p1.int
      cases p2.int
      have k : (if (rgOk i && rgOk j) = true then leaf (rangeD i j) else fail).all _ := k
      by_cases h : (rgOk i && rgOk j) = true
      · rw [if_pos h] at k
        unfold rgOk at h
        simp only [Bool.and_eq_true, decide_eq_true_eq] at h
        refine ⟨i, j, rfl, rfl, RgOk.of_le h.1.1 h.2.2 h.1.2 h.2.1, fun l hl => ?_⟩
        have f := e2.good.free hl
        exact k l _ F2 _ ((e1.trans e2).trans (Ext.new e2.good hl)) upd_same f.1 f.2 (ext_none g (e1.trans e2) hl) (rgV_rep i j)
      · rw [if_neg h] at k
        exact k.elim
    | _ => exact False.elim k
  | _ => exact False.elim k
end
/-! ### pots -/
section
variable {X : Cx} {e : Expr} {pos : Pos}
/-- return [p, q]: the list becomes a pot -/
def oPot (ml : En → Tree (List D)) : En → Tree Out := fun E => (ml E).bind fun ds => match ds with
  | [.int p, .int q] => if (decide (0 ≤ p) && decide (0 ≤ q) && decide (q < 4294967296)) = true then leaf (.rt .pot) else fail
  | _ => fail
theorem s_retpot {ml : En → Tree (List D)} (he : SL X e ml) : SS X (.Return (some e) pos) (oPot ml) := by
  refine ⟨PS.weak (ps_ret he.pe) fun D0 σ H ⟨F0, H0, F, E, ex, r, q⟩ => ?_⟩
  refine ⟨B0 H0, F, E, ex.good, r, Tree.all_mono (fun ds k a xs F1 H1 e1 ha n t h0 rs => ?_) (Tree.all_bind.mp q)⟩
  split at k
  · split at k
    · rename_i h
      simp only [Bool.and_eq_true, decide_eq_true_eq] at h
      have e2 := ex.trans e1
      have hz : NT H0 a := by
        by_cases t0 : F0.T a
        · exact absurd (e2.monoT _ t0) t
        · exact ex.back h0 t0
      cases rs with
      | cons r1 rs =>
        cases rs with
        | cons r2 rs =>
          cases rs
          cases r1
          cases r2
          refine k (.ref a) ⟨F1.P, fun b => F1.T b ∨ b = a⟩ H1 ⟨⟨e2.good.sub, fun b hb => ?_, e2.good.nt, e2.good.tab⟩, e2.mono, fun b hb => .inl (e2.monoT b hb), e2.keep, fun b hb => ?_⟩ ⟨e1.mono, fun b hb => .inl (e1.monoT b hb)⟩ (.pot (.inr rfl))
          · rcases hb with hb | hb
            · exact e2.good.pot b hb
            · subst hb; exact ⟨n, _, _, ha, h.1.1, h.1.2, h.2⟩
          · rcases hb with hb | hb | hb
            · exact e2.fresh b (.inl hb)
            · exact e2.fresh b (.inr hb)
            · subst hb; exact .inr (.inr hz)
    · exact k.elim
  · exact k.elim
def fDraw : List D → Tree D
  | [.pot, .int n] => if (decide (0 < n) && decide (n.natAbs.log2 < 9000)) = true then .draw n.toNat fun i => leaf (.int i) else fail
  | _ => fail
theorem fDraw_len {K : PySem.W.Frag} : ∀ vs H Q E, spF K fDraw vs H Q E → vs.length = 2 := fun vs H Q E ⟨F, ds, g, r, q⟩ => by
  unfold fDraw at q
  split at q
  · exact r.length
  · exact q.elim
/-- a pot's list is changed -/
theorem Ext.pot {F : Fz} {H : Hp} {a : Addr} {p q : Int} (g : Good F H) (t : F.T a) (h0 : 0 ≤ p) (h1 : 0 ≤ q) (h2 : q < 4294967296) : Ext F H F (upd H a (.lst [.int p, .int q])) := by
  have n := (g.pot a t).1
  obtain ⟨p0, q0, hl, _⟩ := (g.pot a t).2
  refine ⟨⟨fun b o h => ?_, fun b tb => ?_, g.nt, tabs_stay g.tab fun b u h nl => ?_⟩, Same.refl _, fun _ h => h, fun b o h nt _ => ?_, fun b h => h.elim .inl fun z => .inr (.inl z)⟩
  · rw [upd_ne (ne_of_none h n)]; exact g.sub b o h
  · by_cases e : b = a
    · subst e; exact ⟨n, p, q, upd_same, h0, h1, h2⟩
    · rw [upd_ne e]; exact g.pot b tb
  · rw [upd_ne (fun z : b = a => by rw [z, hl] at h; cases h; exact nl _ rfl)]; exact h
  · rw [upd_ne (fun e : b = a => nt (by rw [e]; exact t))]; exact h
theorem fDraw_of {K : PySem.W.Frag} {vs : List V} {H : Hp} {Q : VK} {E : XK} (h : spF K fDraw vs H Q E) : ∃ (a : Addr) (n p q : Int), vs = [.ref a, .int n] ∧ H a = some (.lst [.int p, .int q]) ∧ 0 ≤ p ∧ 0 ≤ q ∧ q < 4294967296 ∧ 0 < n ∧ n.natAbs.log2 < 9000 ∧
    ∀ (H' : Hp) (p' q' i : Int), 0 ≤ p' → 0 ≤ q' → q' < 4294967296 → 0 ≤ i → i < n → (∃ T x, H' = upd (upd H T x) a (.lst [.int p', .int q']) ∧ H T = none ∨ H' = upd H a (.lst [.int p', .int q'])) → Q (.int i) H' := by
  obtain ⟨F, ds, g, r, q⟩ := h
  unfold fDraw at q
  split at q
  · split at q
    · rename_i hn
      rw [Bool.and_eq_true, decide_eq_true_eq, decide_eq_true_eq] at hn
      cases r with
      | cons r1 r =>
        cases r with
        | cons r2 r =>
          cases r
          cases r1 with
          | pot t =>
            cases r2
            obtain ⟨nP, p0, q0, hp, h0, h1, h2⟩ := g.pot _ t
            refine ⟨_, _, p0, q0, rfl, hp, h0, h1, h2, hn.1, hn.2, fun H' p' q' i b1 b2 b3 b4 b5 hH => ?_⟩
            have hi := q i.toNat (by omega)
            have hi : ∀ v F' H', Ext F H F' H' → Rep K F' v (.int ((i.toNat : Nat) : Int)) → Q v H' := hi
            rw [Int.toNat_of_nonneg b4] at hi
            obtain ⟨T, x, ⟨e, nT⟩ | e⟩ := hH
            · subst e
              exact hi _ F _ ((Ext.new g nT).trans (Ext.pot (g.new nT) t b1 b2 b3)) (.int i)
            · subst e
              exact hi _ F _ (Ext.pot g t b1 b2 b3) (.int i)
    · exact q.elim
  · exact q.elim
end
end R

set_option Elab.async false
set_option linter.all false
set_option maxRecDepth 100000
namespace R
open PySem PySem.Spec PyProof.Rows L2
open Tree (leaf fail)
section
variable {X : Cx} {e : Expr} {m : En → Tree D} {p pos : Pos} {x : Str}
def opNeg : D → Tree D
  | .int i => leaf (.int (-i))
  | _ => fail
theorem se_neg (ha : SP X e m) : SE X (.UnaryOp .USub e pos) (m1 opNeg m) := by
  refine ⟨PE.weak (pe_un un_neg ha.pe) fun σ H Q ⟨B, F, E, g, rl, q⟩ => ?_⟩
  refine ⟨B, F, E, g, rl, Tree.all_mono (fun d k v F1 H1 e1 p1 => ?_) (Tree.all_bind.mp q)⟩
  cases d with
  | int i => exact ⟨i, p1.int, k _ F1 H1 e1 (.int _)⟩
  | _ => exact False.elim k
def oPar3 (i j l : Nat) (ma : En → Tree (List D)) : En → Tree Out := fun E => (ma E).bind fun ds => match ds with
  | [a, b, c] => leaf (.nx (((E.put i a).put j b).put l c))
  | _ => fail
theorem s_par3 {st : Stmt} {i j l : Nat} {ta : TA} {ma : En → Tree (List D)} (h : PS X st (tPar3 i j l ta)) (w : ∀ σ H Q, tA X.K ma σ H Q → ta σ H Q) : SS X st (oPar3 i j l ma) := by
  refine ⟨PS.weak h fun D0 σ H ⟨F0, H0, F, E, e, r, q⟩ => w _ _ _ ?_⟩
  refine ⟨B0 H0, F, E, e.good, r, Tree.all_mono (fun ds k vs F' H' e' p => ?_) (Tree.all_bind.mp q)⟩
  cases p with
  | nil => exact False.elim k
  | cons p1 p =>
    cases p with
    | nil => exact False.elim k
    | cons p2 p =>
      cases p with
      | nil => exact False.elim k
      | cons p3 p =>
        cases p with
        | nil => exact ⟨_, _, _, rfl, k _ F' H' (e.trans e') e'.le ((((r.ext e').put i p1).put j p2).put l p3)⟩
        | cons _ _ => exact False.elim k
end
/-! ### defs by name -/
structure CalR (P : Program) (w : World) (K : PySem.W.Frag) (mg : Str → Option Value) (base : Heap) (k : Nat) (x : Str) (fn : List D → Tree D) : Prop where
  ex : ∃ (f : Addr) (fd : FuncData) (ps : List Str), FnOk P w K mg base CX0 k f fd ps (spF K fn) ∧ mg x = some (.ref f) ∧ PySem.W.keepIn K (.ref f) = true ∧ Binds K fd ps []
structure CalK (P : Program) (w : World) (K : PySem.W.Frag) (mg : Str → Option Value) (base : Heap) (k : Nat) (x : Str) (fn : List D → Tree D) (ks : List Str) (is : List Nat) : Prop where
  ex : ∃ (f : Addr) (fd : FuncData) (ps : List Str), FnOk P w K mg base CX0 k f fd ps (spF K fn) ∧ mg x = some (.ref f) ∧ PySem.W.keepIn K (.ref f) = true ∧ KwBinds K fd ps ks is
structure ConR (K : PySem.W.Frag) (mg : Str → Option Value) (x : Str) (d : D) : Prop where
  ex : ∃ v u, mg x = some u ∧ RelV v u ∧ ∀ F, Rep K F v d
/-- where a def stands behind the top -/
structure At (K : PySem.W.Frag) (mg : Str → Option Value) (x : Str) (st : Stmt) : Prop where
  ex : ∃ (f : Addr) (fd : FuncData), Fun K x x st f fd ∧ mg x = some (.ref f)
section
variable {X : Cx} {k j : Nat} {x : Str} {fn : List D → Tree D} {p pos : Pos} {e : Expr} {es : List Expr} {ma : En → Tree (List D)}
theorem se_c (c : CalR X.prog X.w X.K X.mg X.base k x fn) (hr : Room j X.A) (hk : k ≤ j) (hg : Gl X x) (ha : SA X (e :: es) ma) (hdb : (x == ("__debug__" : Str)) = false := by decide)
    (he : starEach (e :: es) X.env = (false, eval e X.env) :: starEach es X.env := by rfl) (hpl : (backTo pos (starEach es X.env)).any (·.1) = false := by rfl) : SE X (.Call (.Name x p) (e :: es) [] pos) (mA fn ma) := by
  obtain ⟨f, fd, ps, F, hm, kp, b⟩ := c.ex
  exact se_call F (hr.mono hk) hg hm kp b ha hdb he hpl
theorem se_k {ks : List Str} {is : List Nat} {kws : List Keyword} {mk : En → Tree (List D)} (c : CalK X.prog X.w X.K X.mg X.base k x fn ks is) (hr : Room j X.A) (hk : k ≤ j) (hg : Gl X x) (hkw : SK_ X kws mk)
    (hall : (backToKw pos (keywordEach kws X.env)).all (·.1.isSome) = true := by rfl) (hks : (backToKw pos (keywordEach kws X.env)).filterMap (·.1) = ks := by rfl) (hdb : (x == ("__debug__" : Str)) = false := by decide)
    (hpl : ((backTo pos (starEach [] X.env)).any (·.1) || (backToKw pos (keywordEach kws X.env)).any (·.1.isNone)) = false := by rfl) : SE X (.Call (.Name x p) [] kws pos) (mA (fun ds => fn (permD is ds)) mk) := by
  obtain ⟨f, fd, ps, F, hm, kp, b⟩ := c.ex
  exact se_callKw F (hr.mono hk) hg hm kp b hkw hall hks hdb hpl
theorem se_con {d : D} (c : ConR X.K X.mg x d) (hg : Gl X x) (hd : (x == ("__debug__" : Str)) = false := by decide) : SE X (.Name x pos) (fun _ => leaf d) := by
  obtain ⟨v, u, hm, r, rp⟩ := c.ex
  exact se_of (pe_glob hg hm r hd) rp
theorem se_ty {T : String} (hg : Gl X x) (hm : X.mg x = none) (hv : bootBuiltins x = some (.type T)) (hn : x ≠ "__name__" := by decide) (hd : (x == ("__debug__" : Str)) = false := by decide) : SE X (.Name x pos) (fun _ => leaf (.ty T)) :=
  se_of (pe_bltn (v := .ty T) hg hm hv rfl hn hd) fun _ => .ty T
end
section
variable {P : Program} {w : World} {K : PySem.W.Frag} {mg : Str → Option Value} {base : Heap}
theorem cal_mk {x : Str} {st : Stmt} {fn : List D → Tree D} {k : Nat} {ps : List Str} (a : At K mg x st) (c : ∀ f fd, Fun K x x st f fd → FnOk P w K mg base CX0 k f fd ps (spF K fn))
    (hb : ∀ (kV doc pm : Value) (an : Option Addr) (cdv ct : Value) (us : List Value), us.length = ps.length → bindArgs (PySem.W.fnOf x x (defArgs st) (defBody st) (defScope st) .none kV doc pm an cdv ct) ⟨us, []⟩ = pure (ps.zip us)) : CalR P w K mg base k x fn := by
  obtain ⟨f, fd, F, hm⟩ := a.ex
  exact ⟨f, fd, ps, c f fd F, hm, F.kp, F.binds hb⟩
theorem kw_of {x : Str} {st : Stmt} {fn : List D → Tree D} {k : Nat} {ps ks : List Str} {is : List Nat} (a : At K mg x st) (c : ∀ f fd, Fun K x x st f fd → FnOk P w K mg base CX0 k f fd ps (spF K fn))
    (hb : ∀ (kV doc pm : Value) (an : Option Addr) (cdv ct : Value) (ws : List Value), (is.filterMap fun i => ws[i]?).length = ps.length → bindArgs (PySem.W.fnOf x x (defArgs st) (defBody st) (defScope st) .none kV doc pm an cdv ct) ⟨[], ks.zip ws⟩ = pure (ps.zip (is.filterMap fun i => ws[i]?))) :
    CalK P w K mg base k x fn ks is := by
  obtain ⟨f, fd, F, hm⟩ := a.ex
  have F0 := F
  obtain ⟨oc, od, kV, doc, pm, an, cdv, ct, osl, e, lk, hcd⟩ := F.ex
  refine ⟨f, fd, ps, c f fd F0, hm, F.kp, ⟨fun s ws _ hl => ?_⟩⟩
  rw [e]
  exact .of_eq (hb kV doc pm an cdv ct ws hl)
theorem at_of {x : Str} {st : Stmt} {h : Heap} {f : Addr} {oc kV dc pm cd ct : Value} {od an : Option Addr} {sl : Array (Option Value)} (X : K.In h) (G : h.Ns mainGlobals mg)
    (a : PySem.W.nsIn K mainGlobals x = some (some (.ref f))) (l : K.lookup f = some ⟨oc, od, .func (PySem.W.fnOf x x (defArgs st) (defBody st) (defScope st) .none kV dc pm an cd ct), sl⟩) (c : PySem.W.codeIn K cd x = true) (k : PySem.W.keepIn K (.ref f) = true) : At K mg x st :=
  ⟨f, _, fun_mk l c k, PySem.W.mg_of X G a⟩
theorem con_int {x : Str} {h : Heap} {i : Int} {t : Tok} (X : K.In h) (G : h.Ns mainGlobals mg) (a : PySem.W.nsIn K mainGlobals x = some (some (.int i t))) : ConR K mg x (.int i) :=
  ⟨.int i, _, PySem.W.mg_of X G a, ⟨t, rfl⟩, fun _ => .int i⟩
/-- a pair of ints of the module -/
theorem con_pair {x : Str} {h : Heap} {i j : Int} {t u : Tok} {ad : Addr} {dd : Option Addr} {n : Nat} {sl : Array (Option Value)} (X : K.In h) (G : h.Ns mainGlobals mg) (a : PySem.W.nsIn K mainGlobals x = some (some (.ref ad)))
    (l : K.lookup ad = some ⟨.type "tuple", dd, .seq #[.int i t, .int j u] n, sl⟩) : ConR K mg x (.tup [.int i, .int j]) :=
  ⟨.ref ad, _, PySem.W.mg_of X G a, rfl, fun F => .tup (xs := [.int i, .int j]) (.inr ⟨_, _, n, l, rfl, rfl, by show 2 ≤ sizeLine; decide, .cons ⟨_, rfl⟩ (.cons ⟨_, rfl⟩ .nil)⟩) (.cons (.int i) (.cons (.int j) .nil))⟩
theorem con_loose {q : Program} {lv : List (Str × PySem.W.WData)} {h : Heap} {x : Str} {i : Int} (X : PySem.W.XL q lv mg h) (hm : (x, PySem.W.WData.int i) ∈ lv) : ConR K mg x (.int i) := by
  obtain ⟨v, h1, h2⟩ := X.2.val _ hm
  cases h2
  exact ⟨.int i, _, h1, ⟨_, rfl⟩, fun _ => .int i⟩
end
end R
namespace R
theorem noPy {i j : Int} (h : j.natAbs.log2 < 9000) : PySem.Builtin.divisionGoesByPylong i j = false := PyProof.noPylong_of_log2 h
end R

set_option Elab.async false
set_option linter.all false
set_option maxRecDepth 100000
set_option maxHeartbeats 1000000
/-! the guards' state is carried along: what repr of a container asks -/
namespace R
open PySem PySem.Spec PyProof.Rows L2
open Tree (leaf fail)
def Gd (A : Around) : Prop := A.guards = some []
/-- a def's promise where nothing stands on the guards' pile -/
structure FnG (P : Program) (w : World) (K : PySem.W.Frag) (mg : Str → Option Value) (base : Heap) (k : Nat) (f : Addr) (fd : FuncData) (ps : List Str) (sp : Sp) : Prop where
  many : ∀ vs H Q E, sp vs H Q E → vs.length = ps.length
  goes : ∀ (A : Around) (over : List Env) (s : Shared) (H : Hp) (args : Args) (us : List Value) (vs : List V) (Q : VK) (E : XK), Gd A → Room k A → Env0 P w K mg base A over s H →
    BindsTo s fd args (ps.zip us) → Vals vs us → sp vs H Q E → codeAny (model P w) A (.call (.ref f) args) (CR CX0 over P w H s Q E) s
theorem FnG.of {P : Program} {w : World} {K : PySem.W.Frag} {mg : Str → Option Value} {base : Heap} {k : Nat} {f : Addr} {fd : FuncData} {ps : List Str} {sp : Sp} (F : FnOk P w K mg base CX0 k f fd ps sp) : FnG P w K mg base k f fd ps sp :=
  ⟨F.len, fun A over s H args us vs Q E _ => F.run A over s H args us vs Q E⟩
section
variable {X : Cx}
/-- repr of data without dicts -/
def rReprP (K : PySem.W.Frag) : List V → Hp → VK → Prop := fun xs H Q => ∃ v d, xs = [v] ∧ Dp K H v d ∧ d.showable = true ∧ d.hasDict = false ∧ d.depth ≤ 60 ∧ d.shown.length ≤ sizeLine ∧ Q (.str d.shown) H
theorem cr_reprP (hG : Gd X.A) (hu : X.A.units + 64 < cLine) : CallR X (.builtin "repr") (rReprP X.K) := by
  intro pins s σ H xs us Q I r h
  obtain ⟨v, d, rfl, dp, hs, hd, hdp, hl, q⟩ := h
  obtain ⟨u, rfl, rv⟩ := vals1 r
  obtain ⟨as, rd⟩ := Dp.reads I d v u dp rv
  cases d with
  | none => cases dp; cases rv; exact PySem.P.repr_of_none ⟨.str _, H, I.tok _, ⟨_, rfl⟩, q⟩
  | bool b => cases dp; cases rv; exact PySem.P.repr_of_bool ⟨.str _, H, I.tok _, ⟨_, rfl⟩, q⟩
  | int i => cases dp; obtain ⟨t, rfl⟩ := rv; exact PySem.P.repr_of_int (by simpa [PyData.showable] using hs) ⟨.str _, H, I.tok _, ⟨_, rfl⟩, q⟩
  | str x => cases dp; obtain ⟨t, rfl⟩ := rv; exact PySem.P.repr_of_str ⟨.str _, H, I.tok _, ⟨_, rfl⟩, q⟩ hl
  | list ds =>
    cases dp with
    | lst _ _ =>
      cases rv
      exact repr_of_reads' rd hs (PyData.noDict_hsm hd) hG (by omega) (fun _ _ e => e) (fun h' t tk k => ⟨.str _, H, I.kept k, ⟨t, rfl⟩, q⟩) hl
  | tuple ds =>
    cases dp with
    | tup _ _ =>
      cases rv
      exact repr_of_reads' rd hs (PyData.noDict_hsm hd) hG (by omega) (fun _ _ e => e) (fun h' t tk k => ⟨.str _, H, I.kept k, ⟨t, rfl⟩, q⟩) hl
  | dict _ => cases dp
def rReprD : List V → Hp → VK → Prop := fun xs H Q => ∃ a, xs = [.ref a] ∧ H a = some (.dK []) ∧ Q (.str "{}") H
theorem cr_reprD (hG : Gd X.A) (hu : X.A.units + 64 < cLine) : CallR X (.builtin "repr") rReprD := by
  intro pins s σ H xs us Q I r h
  obtain ⟨a, rfl, ha, q⟩ := h
  obtain ⟨u, rfl, rv⟩ := vals1 r
  cases rv
  obtain ⟨_, hsm, vs, kv, o, es, ep, ho, hx, hd, _, hp, _⟩ := dk_of I.hok ha
  cases kv
  have he : es.toList = [] := by
    generalize es.toList = l at hp
    cases hp; rfl
  have rd : Reads s.heap (.ref a) (.dict []) ([a] ++ []) := .dict ho hx.1 hd (by rw [he]; exact .nil) (by rw [he]; exact .nil)
  exact repr_of_reads' rd (by decide +kernel) (fun _ hm => by
    have : sysModules = a := by simpa using hm
    rw [this] at hsm
    simp at hsm) hG (by rw [show (PyData.dict []).depth = 1 by decide +kernel]; omega) (fun _ _ e => e) (fun h' t tk k => ⟨.str _, H, I.kept k, ⟨t, rfl⟩, q⟩) (by decide +kernel)
def rRepr (K : PySem.W.Frag) : List V → Hp → VK → Prop := fun xs H Q => rReprP K xs H Q ∨ rReprD xs H Q
theorem cr_repr (hG : Gd X.A) (hu : X.A.units + 64 < cLine) : CallR X (.builtin "repr") (rRepr X.K) := CallR.or (cr_reprP hG hu) (cr_reprD hG hu)
end
section
variable {P : Program} {w : World} {K : PySem.W.Frag} {mg : Str → Option Value} {base : Heap}
/-- a def's promise by its body's reading, the guards' state known -/
theorem fnG_body {x qual : Str} {st : Stmt} {f : Addr} {fd : FuncData} {N ps : List Str} {k : Nat} {sp : Sp} (F : Fun K x qual st f fd) (S : FnScope N ps (defScope st))
    (many : ∀ vs H Q E, sp vs H Q E → vs.length = ps.length)
    (hb : ∀ (cdv : Value) (A : Around) (over : List Env) (s : Shared) (H : Hp) (vs : List V) (Q : VK) (E : XK), fd.code = cdv → Gd A → Room k (A.deeper (envOfC qual (defScope st) s.heap.objs.size f cdv)) →
      sp vs H Q E → ∃ t, PSs (cxOf CX0 P w K mg base N qual (defScope st) f cdv A over s H E).nox (defBody st) t ∧
        t { nx := fun _ H' => Q .non H', rt := Q } (start N vs) H) : FnG P w K mg base (k + 1) f fd ps sp := by
  obtain ⟨oc, od, kV, dc, pm, an, cdv, ct, sl, rfl, lk, hcd⟩ := F.ex
  refine ⟨many, fun A over s H args us vs Q E hG hr e0 bd r hsp => ?_⟩
  have n1 := many _ _ _ _ hsp
  have inK : K.In s.heap := e0.mod.kin.keeps fun b o e => (e0.bs b o e).1
  have room := e0.mod.nolimit.keeps (h' := s.heap) fun b o e => (e0.bs b o e).1
  have names : ∀ y ∈ ps.zip us, (defScope st).names.lookup y.1 = some .local ∨
      ((defScope st).names.lookup y.1 = some .cell ∧ ((cellsFrom (s.heap.objs.size + 1) (defScope st).names []).lookup y.1).isSome = true) := by
    intro ⟨n, v⟩ hy
    exact (S.par n (List.of_mem_zip hy).1).imp id fun q => ⟨q, PySem.W.cellsFrom_some _ _ _ (.inl q)⟩
  refine codeAny_call_function hr.depth (inK _ _ lk) rfl S.co S.gen rfl
    (PySem.W.codeRec_of inK hcd) (bd _ _ _ _ ?_)
  refine wpAny_newFunctionEnv_cells S.kind names
    fun env he s1 y => ?_
  cases he
  refine ⟨room.keeps y.toInCall.keep, codeAny_func ?_⟩
  obtain ⟨t, ht, hq⟩ := hb cdv A over s H vs Q E rfl hG (hr.deeper _) hsp
  have J := inv_start (CX := CX0) (E := E) S hr.hd e0 n1 r y
  refine wpAny_mono (ht.nox.run [] s1 (start N vs) H _ J hq)
    (fun fl s' hs => ?_) fun e s' hs => hs
  cases fl with
  | brk => obtain ⟨_, _, _, no⟩ := hs; cases no
  | cont => obtain ⟨_, _, _, no⟩ := hs; cases no
  | ret u =>
    obtain ⟨v, _, H', J', rv, q⟩ := hs
    exact ⟨v, H', J'.os, J'.bare, J'.base, J'.hok, rv, q⟩
  | next =>
    obtain ⟨_, H', J', q⟩ := hs
    exact ⟨V.non, H', J'.os, J'.bare, J'.base, J'.hok, rfl, q⟩
theorem def_okG {x qual : Str} {st : Stmt} {f : Addr} {fd : FuncData} {N ps : List Str} {k : Nat} {m : En → Tree Out} (np n : Nat) (F : Fun K x qual st f fd) (S : FnScope N ps (defScope st)) (hn : N.length = n) (hp : ps.length = np)
    (hbody : ∀ (cdv : Value) (A : Around) (outer : List Env) (s : Shared) (H : Hp) (E : XK), fd.code = cdv → Gd A → Room k (A.deeper (envOfC qual (defScope st) s.heap.objs.size f cdv)) →
      SSs (cxOf CX0 P w K mg base N qual (defScope st) f cdv A outer s H E).nox (defBody st) m) : FnG P w K mg base (k + 1) f fd ps (spF K (mDef np n m)) := by
  subst hn hp
  refine fnG_body F S (fun vs H Q E h => spF_len vs H Q E h) (fun cdv A outer s H vs Q E hcv hG hr h => ?_)
  obtain ⟨F, ds, g, r, q⟩ := h
  refine ⟨_, (hbody cdv A outer s H E hcv hG hr).ps, F, H, F, En.start N.length ds, Ext.refl g, rel_start r N, ?_⟩
  unfold mDef at q
  split at q
  · refine Tree.all_mono (fun o k => ?_) (Tree.all_bind.mp q)
    cases o with
    | nx E => exact fun σ' F' H' e l r => k .non F' H' e .non
    | rt d => exact fun v F' H' e l r => k v F' H' e r
    | bk E => exact False.elim k
    | ct E => exact False.elim k
  · exact q.elim
end
section
variable {X : Cx} {k : Nat} {f : Addr} {fd : FuncData} {ps : List Str} {x : Str} {fn : List D → Tree D} {p pos : Pos} {e : Expr} {es : List Expr} {ma : En → Tree (List D)}
theorem goG {pins : List (Addr × Obj)} {σ : L2.St} {H : Hp} {s : Shared} {Q : VK} {vs : List V} {sp : Sp} {args : Args} {zs : List Value} (F : FnG X.prog X.w X.K X.mg X.base k f fd ps sp) (hG : Gd X.A) (hr : Room k X.A)
    (I : Inv X pins σ H s) (bd : BindsTo s fd args (ps.zip zs)) (r : Vals vs zs) (h : sp vs H Q E0) : codeAny (model X.prog X.w) X.A (.call (.ref f) args) (fun r s' => match r with
      | .ok (.ret u) => EP X pins σ Q u s'
      | _ => False) s := by
  refine codeAny_mono (F.goes X.A X.stack s H args zs vs Q E0 hG hr I.env0 bd r h) fun r s' hq => ?_
  cases r with
  | error e => exact False.elim hq
  | ok fl =>
    cases fl with
    | ret u => exact I.after hq
    | next => exact False.elim hq
    | brk => exact False.elim hq
    | cont => exact False.elim hq
theorem se_callG (F : FnG X.prog X.w X.K X.mg X.base k f fd ps (spF X.K fn)) (hG : Gd X.A) (hr : Room k X.A) (hg : Gl X x) (hm : X.mg x = some (.ref f)) (hk : PySem.W.keepIn X.K (.ref f) = true) (hb : Binds X.K fd ps [])
    (ha : SA X (e :: es) ma) (hdb : (x == ("__debug__" : Str)) = false := by decide) (he : starEach (e :: es) X.env = (false, eval e X.env) :: starEach es X.env := by rfl) (hpl : (backTo pos (starEach es X.env)).any (·.1) = false := by rfl) :
    SE X (.Call (.Name x p) (e :: es) [] pos) (mA fn ma) := by
  refine ⟨PE.weak (t := fun σ H Q => tA X.K ma σ H fun vs H1 => spF X.K fn vs H1 Q E0) ⟨fun pins s σ H Q I h => ?_⟩ fun σ H Q ⟨B, F, E, g, rl, q⟩ => ?_⟩
  · refine wpAny_Call_Name_kw (ld_glob I hg hm ?_ hdb)
    refine PySem.W.callWith_K (h₀ := X.base) I.ok.mod.kin hk (thn (ha.pa.run pos pins s σ H _ I h) fun us s1 ⟨vs, H1, I1, r, q⟩ => ⟨I1.kIn, ?_⟩) he hpl
    have hl := r.length.symm.trans (F.many _ _ _ _ q)
    have bd := hb s1 us I1.kIn (by rw [List.append_nil]; exact hl)
    rw [List.append_nil] at bd
    refine wpAny_call (codeAny_mono (goG F hG hr I1 bd r q) fun r s' hq => ?_)
    cases r with
    | error e => exact False.elim hq
    | ok fl =>
      cases fl with
      | ret u => exact hq
      | next => exact False.elim hq
      | brk => exact False.elim hq
      | cont => exact False.elim hq
  · exact ⟨B, F, E, g, rl, Tree.all_mono (fun ds k vs F1 H1 e1 p1 => ⟨F1, ds, e1.good, p1, Tree.all_mono (fun z kz w F2 H2 e2 rz => kz w F2 H2 (e1.trans e2) rz) k⟩) (Tree.all_bind.mp q)⟩
theorem se_callKwG {ks : List Str} {kws : List Keyword} {is : List Nat} {mk : En → Tree (List D)} (F : FnG X.prog X.w X.K X.mg X.base k f fd ps (spF X.K fn)) (hG : Gd X.A) (hr : Room k X.A) (hg : Gl X x) (hm : X.mg x = some (.ref f)) (hk : PySem.W.keepIn X.K (.ref f) = true)
    (hb : KwBinds X.K fd ps ks is) (hkw : SK_ X kws mk) (hall : (backToKw pos (keywordEach kws X.env)).all (·.1.isSome) = true := by rfl) (hks : (backToKw pos (keywordEach kws X.env)).filterMap (·.1) = ks := by rfl) (hdb : (x == ("__debug__" : Str)) = false := by decide)
    (hpl : ((backTo pos (starEach [] X.env)).any (·.1) || (backToKw pos (keywordEach kws X.env)).any (·.1.isNone)) = false := by rfl) :
    SE X (.Call (.Name x p) [] kws pos) (mA (fun ds => fn (permD is ds)) mk) := by
  refine ⟨⟨fun pins s σ H Q I ⟨B, F', E, g, rl, q⟩ => ?_⟩⟩
  refine wpAny_Call_Name_kw (ld_glob I hg hm ?_ hdb)
  refine PySem.W.callWith_KW0 (h₀ := X.base) I.ok.mod.kin hk hall (thn (hkw.pk.run pos pins s σ H (fun vs H1 => spF X.K fn (is.filterMap fun i => vs[i]?) H1 Q E0) I ⟨B, F', E, g, rl, Tree.all_mono (fun ds k vs F1 H1 e1 p1 => ?_) (Tree.all_bind.mp q)⟩) fun ws s2 ⟨zs, H2, I2, rz, q2⟩ => ⟨I2.kIn, ?_⟩) hpl
  · exact ⟨F1, permD is ds, e1.good, perm_rep p1 is, Tree.all_mono (fun z kz w F2 H2 e2 rz => kz w F2 H2 (e1.trans e2) rz) k⟩
  · rw [hks]
    have r2 := perm_vals rz is
    have hl := r2.length.symm.trans (F.many _ _ _ _ q2)
    refine wpAny_call (codeAny_mono (goG F hG hr I2 (hb.to s2 ws I2.kIn hl) r2 q2) fun r s' hq => ?_)
    cases r with
    | error e => exact False.elim hq
    | ok fl =>
      cases fl with
      | ret u => exact hq
      | next => exact False.elim hq
      | brk => exact False.elim hq
      | cont => exact False.elim hq
end
end R

namespace R
open PySem PySem.Spec PyProof.Rows L2
/-- what is known of the tables at the law's start -/
structure TbF (K : PySem.W.Frag) (h : Heap) : Prop where
  nil : ∀ x ∈ TBC, h.get? x.2.1 = some { cls := .none, data := .fields #[] }
  out : ∀ x ∈ TBC, K.lookup x.2.1 = none
  cod : ∀ x ∈ TBC, PySem.W.CodeHd h x.1 x.2.1
theorem TbF.none {K : PySem.W.Frag} {h : Heap} (e : TBC = []) : TbF K h := by
  constructor <;> (intro x hx; rw [e] at hx; cases hx)
def isTb (b : Addr) : Prop := ∃ x ∈ TBC, x.2.1 = b
/-- the law's call, by a promise that knows the guards -/
theorem law_callG {P : Program} {w : World} {K : PySem.W.Frag} {mg mb : Str → Option Value} {k : Nat} {fa a : Addr}
    {fd : FuncData} {x : Str} {sp : Sp} {s₁ : Shared} {us : List Value} {ns : List Int}
    (kin : K.In s₁.heap) (hmg : s₁.heap.Ns mainGlobals mg) (hmb : s₁.heap.Ns builtinsNs mb)
    (boot : ∀ x : Str, x ≠ "__name__" → mb x = bootBuiltins x) (noLim : s₁.heap.NoLimit) (gen : s₁.gens = #[]) (tb : TbF K s₁.heap)
    (bmod : ∃ (m : Addr) (om : Obj), mg "__builtins__" = some (.ref m) ∧ m ≠ builtinsNs ∧ s₁.heap.get? m = some om ∧ om.cls = .type "module" ∧ om.dict = some builtinsNs ∧ om.data = .plain)
    (atA : s₁.heap.get? a = some { cls := .type "list", data := .seq us.toArray }) (hints : IntsAre us ns) (len : ns.length ≤ sizeLine) (room : Room k callerA)
    (F : ∀ base : Heap, K.In base → base.Ns mainGlobals mg → (∀ x ∈ TBC, LamX.TabB base mg x.1 x.2.1) → FnG P w K mg base k fa fd [x] sp)
    (bind : ∀ (s : Shared) (u : Value), BindsTo s fd ⟨[u], []⟩ [(x, u)])
    (says : ∀ H : Hp, (∀ b ps, H b = some (.tbl ps) → isTb b) → (∀ x ∈ TBC, H x.2.1 = some (.tbl #[])) → SqL K H a (ns.map V.int) → sp [.ref a] H (fun v _ => v = .bl true) E0) :
    codeAny (model P w) callerA (.call (.ref fa) ⟨[.ref a], []⟩)
      (fun r s' => r = .ok (.ret (.bool true)) ∧ OldK s₁.heap s'.heap ∧ s'.os = s₁.os ∧ AllBare s'.gens) s₁ := by
  have vals := vals_ints hints
  have sameLen := hints.length
  have tbAt : ∀ {b : Addr}, isTb b → s₁.heap.get? b = some { cls := .none, data := .fields #[] } := fun ⟨x, hx, e⟩ => e ▸ tb.nil x hx
  have aNot : ¬ isTb a := fun z => by
    have := tbAt z
    rw [atA] at this
    cases (congrArg Obj.data (Option.some.inj this) : Data.seq us.toArray _ = Data.fields #[])
  have main : ∀ H : Hp, (∀ b, H b = none ∨ (isTb b ∧ H b = some (.tbl #[])) ∨ (b = a ∧ ∃ o xs, H b = some (.frz o (.lst xs)))) → (∀ x ∈ TBC, H x.2.1 = some (.tbl #[])) → SqL K H a (ns.map V.int) → HOk P w H s₁.heap →
      (H a ≠ none → K.lookup a = none) → codeAny (model P w) callerA (.call (.ref fa) ⟨[.ref a], []⟩)
        (fun r s' => r = .ok (.ret (.bool true)) ∧ OldK s₁.heap s'.heap ∧ s'.os = s₁.os ∧ AllBare s'.gens) s₁ := by
    intro H three tabs seq ok notK
    have back : ∀ {b : Addr} {o : Obj}, s₁.heap.get? b = some o →
        H b = none → (hidT s₁.heap H).get? b = some o := fun e n => hidT_get e n
    -- what is neither a list nor an empty table is not tracked
    have plainFree : ∀ {b : Addr} {o : Obj}, s₁.heap.get? b = some o → (∀ v n, o.data ≠ .seq v n) → o.data ≠ .fields #[] → H b = none := by
      intro b o e d1 d2
      rcases three b with z | ⟨z, _⟩ | ⟨z, _⟩
      · exact z
      · rw [tbAt z] at e; cases e; exact absurd rfl d2
      · rw [z, atA] at e; cases e; exact absurd rfl (d1 _ _)
    have dictFree : ∀ {b : Addr} {o : Obj} {es : Array DictEntry} {ep : Nat}, s₁.heap.get? b = some o →
        o.data = .dict es ep → H b = none := fun e d => plainFree e (fun _ _ z => by rw [d] at z; cases z) fun z => by rw [d] at z; cases z
    have space : ∀ {b : Addr} {m : Str → Option Value}, s₁.heap.Ns b m → (hidT s₁.heap H).Ns b m := by
      rintro b m ⟨o, es, ep, e, d, r⟩
      exact ⟨o, es, ep, back e (dictFree e d), d, r⟩
    have kept : K.In (hidT s₁.heap H) := by
      intro b o e
      refine back (kin b o e) ?_
      rcases three b with z | ⟨⟨x, hx, ex⟩, _⟩ | ⟨z, q⟩
      · exact z
      · rw [← ex, tb.out x hx] at e; cases e
      · obtain ⟨o', xs, q⟩ := q
        rw [z] at e q
        rw [notK (by rw [q]; simp)] at e
        cases e
    have gT : ∀ {b : Addr}, isTb b → mainGlobals ≠ b := fun z q => by
      obtain ⟨o, es, ep, e, d, _⟩ := hmg
      rw [q, tbAt z] at e; cases e; cases d
    have tabsB : ∀ x ∈ TBC, LamX.TabB (hidT s₁.heap H) mg x.1 x.2.1 := fun x hx => by
      have tx : isTb x.2.1 := ⟨x, hx, rfl⟩
      obtain ⟨oc, ws, fl, ft, gs, gt, il, tx1, tx2, c1, c2, c3, c4, crest⟩ := tb.cod x hx
      obtain ⟨m, om, m1, m2, m3, m4, m5, m6⟩ := bmod
      refine ⟨⟨oc, ws, fl, ft, gs, gt, il, tx1, tx2, back c1 (plainFree c1 (fun v n z => by rw [c3] at z; cases z) fun z => ?_), c2, c3, c4, crest⟩, ⟨m, om, m1, m2, fun q => ?_, fun q => ?_, back m3 (plainFree m3 (fun v n z => by rw [m6] at z; cases z) fun z => by rw [m6] at z; cases z), m4, m5, m6⟩, gT tx⟩
      · rw [c3] at z; cases z; simp at c4
      · obtain ⟨o, es, ep, e, d, _⟩ := hmg
        rw [← q, m3] at e; cases e; rw [m6] at d; cases d
      · rw [q, tbAt tx] at m3; cases m3; cases m6
    obtain ⟨mc, l1, l2⟩ := noLim
    have modOk : Mod K mg (hidT s₁.heap H) := ⟨kept, space hmg, ⟨mb, space hmb, boot⟩, ⟨mc, space l1, l2⟩⟩
    have env : Env0 P w K mg (hidT s₁.heap H) callerA [] s₁ H :=
      { frames := rfl, mod := modOk, bs := fun b o e => of_hidT e, bsz := Nat.le_of_eq (hidT_size _ _), funs := trivial
        frf := fun b hb => absurd (show b ∈ ([] : List Addr) from hb) (by simp), hok := ok, bare := .of_eq gen }
    have nt : ∀ b ps, H b = some (.tbl ps) → isTb b := fun b ps q => by
      rcases three b with z | ⟨z, _⟩ | ⟨_, o, xs, z⟩
      · rw [z] at q; cases q
      · exact z
      · rw [z] at q; cases q
    have go := (F _ kept (space hmg) tabsB).goes callerA [] s₁ H ⟨[.ref a], []⟩ [.ref a] [.ref a] _ _ rfl room env
      (bind s₁ (.ref a)) (.cons rfl .nil) (says H nt tabs seq)
    refine codeAny_mono go fun r s' h => ?_
    cases r with
    | error e => exact False.elim h
    | ok fl =>
      cases fl with
      | ret u =>
        obtain ⟨v, H', os, bare, un, ok', ru, q⟩ := h
        cases (show v = .bl true from q)
        obtain rfl : u = Value.bool true := ru
        have same : ∀ b o, ¬ isTb b → s₁.heap.get? b = some o → s'.heap.get? b = some o := fun b o nb e => by
          rcases three b with z | ⟨z, _⟩ | ⟨_, ob, xs, y⟩
          · exact un.keep b o e z (by intro m; exact absurd (show b ∈ ([] : List Addr) from m) (by simp)) (by simp)
          · exact absurd z nb
          · obtain ⟨e1, _⟩ := ok b _ y
            obtain ⟨e2, _⟩ := ok' b _ (un.frzs b ob _ y)
            rw [e] at e1
            cases e1
            exact e2
        have more : ∀ x ∈ TBC, ∃ ps : Array Value, s'.heap.get? x.2.1 = some { cls := .none, data := .fields ps } := fun x hx => by
          obtain ⟨ps, z⟩ := un.tbls x.2.1 #[] (tabs x hx)
          exact ⟨_, ok' x.2.1 _ z⟩
        refine ⟨rfl, ⟨fun b o e => ?_, fun b o e => ?_⟩, os, bare⟩
        · by_cases z : isTb b
          · obtain ⟨x, hx, rfl⟩ := z
            obtain ⟨ps, hp⟩ := more x hx
            rw [tb.nil x hx] at e
            cases e
            exact .inr (.inl ⟨((tb.cod x hx).tab (tb.nil x hx)).isCodeTable, rfl, #[], ps, rfl, by rw [Array.empty_append]; exact hp⟩)
          · exact .inl (same b o z e)
        · by_cases z : isTb b
          · obtain ⟨x, hx, rfl⟩ := z
            obtain ⟨ps, hp⟩ := more x hx
            exact ⟨_, hp⟩
          · exact ⟨o, same b o z e⟩
      | next => exact False.elim h
      | brk => exact False.elim h
      | cont => exact False.elim h
  have okT : ∀ {b : Addr}, isTb b → ObjOk P w (fun _ => none) s₁.heap b (.tbl #[]) := fun z => tbAt z
  classical
  cases own : K.lookup a with
  | some o =>
    have e := kin a o own
    rw [atA] at e
    cases e
    let H : Hp := fun b => if isTb b then some (.tbl #[]) else none
    have at1 : ∀ {b : Addr}, isTb b → H b = some (.tbl #[]) := fun z => if_pos z
    have at0 : ∀ {b : Addr}, ¬ isTb b → H b = none := fun z => if_neg z
    refine main H (fun b => ?_) (fun x hx => at1 ⟨x, hx, rfl⟩) ?_ (fun b u z => ?_) fun z => absurd (at0 aNot) z
    · by_cases z : isTb b
      · exact .inr (.inl ⟨z, at1 z⟩)
      · exact .inl (at0 z)
    · exact .inr ⟨_, us.toArray, _, own, rfl, rfl, rfl, by rw [List.size_toArray, sameLen]; exact len, by simpa using vals⟩
    · by_cases hb : isTb b
      · cases (at1 hb).symm.trans z
        exact tbAt hb
      · cases (at0 hb).symm.trans z
  | none =>
    let o : Obj := { cls := .type "list", data := .seq us.toArray }
    let H : Hp := fun b => if b = a then some (.frz o (.lst (ns.map V.int))) else if isTb b then some (.tbl #[]) else none
    have at1 : H a = some (.frz o (.lst (ns.map V.int))) := if_pos rfl
    have at2 : ∀ {b : Addr}, isTb b → H b = some (.tbl #[]) := fun {b} z => (if_neg (fun e : b = a => aNot (e ▸ z))).trans (if_pos z)
    have at0 : ∀ {b : Addr}, b ≠ a → ¬ isTb b → H b = none := fun n z => (if_neg n).trans (if_neg z)
    refine main H (fun b => ?_) (fun x hx => at2 ⟨x, hx, rfl⟩) (.inl (.inr ⟨o, at1⟩)) (fun b u z => ?_) fun _ => own
    · by_cases hb : b = a
      · exact .inr (.inr ⟨hb, o, _, hb ▸ at1⟩)
      · by_cases z : isTb b
        · exact .inr (.inl ⟨z, at2 z⟩)
        · exact .inl (at0 hb z)
    · by_cases hb : b = a
      · subst hb
        cases at1.symm.trans z
        exact ⟨atA, by rw [List.length_map]; exact len, us, _, vals, atA⟩
      · by_cases z2 : isTb b
        · cases (at2 z2).symm.trans z
          exact tbAt z2
        · cases (at0 hb z2).symm.trans z
end R
namespace R
open PySem PySem.W PyProof.Rows L2
theorem walk_RG {l : OpenLaw} {n k : Nat} {q : Program} {loose : List Str} {XP : (Str → Option Value) → Heap → Prop} {YP : World → Heap → Prop} {d : DefRec} {K : Params → PySem.W.Frag} {x : Str} {fn : List D → Tree D}
    (hn : l.most = some n) (hn2 : n ≤ sizeLine) (hdf : d.params.defaults = []) (hr : Room k callerA) (hY : ∀ (w : World) (h : Heap), YP w h → (K w.params).In h)
    (tabs : ∀ w : World, ∀ x ∈ TBC, ∃ (name : Str) (d : DefRec), (recsOf q).find? (fun e => e.name == name) = some d ∧ PySem.W.tabIn (K w.params) name = some (x.1, x.2.1) ∧ (K w.params).lookup x.2.1 = none)
    (F : ∀ (w : World) (mg : Str → Option Value) (fa : Addr) (h : Heap), XP mg h → (K w.params).In h → h.Ns mainGlobals mg → mg d.name = some (.ref fa) →
      ∃ fd : FuncData, (∀ (s : Shared) (u : Value), BindsTo s fd ⟨[u], []⟩ [(x, u)]) ∧ ∀ base : Heap, (K w.params).In base → base.Ns mainGlobals mg → (∀ x ∈ TBC, LamX.TabB base mg x.1 x.2.1) → FnG l.prog w (K w.params) mg base k fa fd [x] (spF (K w.params) fn))
    (law : ∀ ns : List Int, ns.length ≤ n → (∀ z ∈ ns, Builtin.Int.intBits z ≤ 1048576) → (fn [.scr ns]).all fun r => r = .bl true) :
    WalkO q loose XP YP l.row.toRowW d [] (fun f vs => PySem.call f vs) := by
  refine Att.attach_callB hn hdf fun w s₀ s₁ mg mb fa o pm cd doc a vs ns G Y ho hd hcd hmg hobj hints hlen hbits hg => ?_
  have KX := hY w _ Y
  obtain ⟨fd, hb, hF⟩ := F w mg fa _ G.X KX G.T.g hmg
  have tb : TbF (K w.params) s₁.heap := ⟨fun x hx => by
    obtain ⟨name, dr, h1, h2, h3⟩ := tabs w x hx
    exact (PySem.W.tab_of G.T KX h1 h2).2, fun x hx => by
    obtain ⟨name, dr, h1, h2, h3⟩ := tabs w x hx
    exact h3, fun x hx => by
    obtain ⟨name, dr, h1, h2, h3⟩ := tabs w x hx
    exact (PySem.W.tab_of G.T KX h1 h2).1⟩
  refine law_callG KX G.T.g G.T.b G.T.builtins G.T.nolimit hg tb G.T.bmain hobj hints (Nat.le_trans hlen hn2) hr hF hb fun H hO hTb hS => ?_
  refine ⟨⟨fun b => match H b with | some (.tbl _) => none | z => z, fun _ => False⟩, [.scr ns], ⟨fun b o z => ?_, fun _ h => h.elim, fun b ps z => ?_, fun p hp => ?_⟩, .cons (.scr ?_) .nil, Tree.all_mono (fun r e v F' H' _ rv => ?_) (law ns hlen hbits)⟩
  · revert z
    show (match H b with | some (.tbl _) => none | z => z) = some o → _
    cases e : H b with
    | none => intro z; cases z
    | some u => cases u <;> intro z <;> first | exact z | cases z
  · revert z
    show (match H b with | some (.tbl _) => none | z => z) = some (.tbl ps) → False
    cases e : H b with
    | none => intro z; cases z
    | some u => cases u <;> intro z <;> cases z
  · obtain ⟨y, hy, rfl⟩ := List.mem_map.mp hp
    exact LamX.TabS.nil (hTb y hy)
  · rcases hS with (hS | ⟨o, hS⟩) | hS
    · exact .inl (.inl (by show (match H a with | some (.tbl _) => none | z => z) = _; rw [hS]))
    · exact .inl (.inr ⟨o, by show (match H a with | some (.tbl _) => none | z => z) = _; rw [hS]⟩)
    · exact .inr hS
  · subst e
    cases rv
    rfl
end R
namespace R
open PySem PySem.Spec PyProof.Rows L2
open Tree (leaf fail)
structure CalG (P : Program) (w : World) (K : PySem.W.Frag) (mg : Str → Option Value) (base : Heap) (k : Nat) (x : Str) (fn : List D → Tree D) : Prop where
  ex : ∃ (f : Addr) (fd : FuncData) (ps : List Str), FnG P w K mg base k f fd ps (spF K fn) ∧ mg x = some (.ref f) ∧ PySem.W.keepIn K (.ref f) = true ∧ Binds K fd ps []
structure CalKG (P : Program) (w : World) (K : PySem.W.Frag) (mg : Str → Option Value) (base : Heap) (k : Nat) (x : Str) (fn : List D → Tree D) (ks : List Str) (is : List Nat) : Prop where
  ex : ∃ (f : Addr) (fd : FuncData) (ps : List Str), FnG P w K mg base k f fd ps (spF K fn) ∧ mg x = some (.ref f) ∧ PySem.W.keepIn K (.ref f) = true ∧ KwBinds K fd ps ks is
theorem FnG.mono {P : Program} {w : World} {K : PySem.W.Frag} {mg : Str → Option Value} {base : Heap} {j k : Nat} {f : Addr} {fd : FuncData} {ps : List Str} {sp : Sp} (F : FnG P w K mg base j f fd ps sp) (h : j ≤ k) : FnG P w K mg base k f fd ps sp :=
  ⟨F.many, fun A over s H args us vs Q E hG hr => F.goes A over s H args us vs Q E hG (hr.mono h)⟩
section
variable {X : Cx} {k j : Nat} {x : Str} {fn : List D → Tree D} {p pos : Pos} {e : Expr} {es : List Expr} {ma : En → Tree (List D)}
theorem se_cG (c : CalG X.prog X.w X.K X.mg X.base k x fn) (hG : Gd X.A) (hr : Room j X.A) (hk : k ≤ j) (hg : Gl X x) (ha : SA X (e :: es) ma) (hdb : (x == ("__debug__" : Str)) = false := by decide)
    (he : starEach (e :: es) X.env = (false, eval e X.env) :: starEach es X.env := by rfl) (hpl : (backTo pos (starEach es X.env)).any (·.1) = false := by rfl) : SE X (.Call (.Name x p) (e :: es) [] pos) (mA fn ma) := by
  obtain ⟨f, fd, ps, F, hm, kp, b⟩ := c.ex
  exact se_callG F hG (hr.mono hk) hg hm kp b ha hdb he hpl
theorem se_kG {ks : List Str} {is : List Nat} {kws : List Keyword} {mk : En → Tree (List D)} (c : CalKG X.prog X.w X.K X.mg X.base k x fn ks is) (hG : Gd X.A) (hr : Room j X.A) (hk : k ≤ j) (hg : Gl X x) (hkw : SK_ X kws mk)
    (hall : (backToKw pos (keywordEach kws X.env)).all (·.1.isSome) = true := by rfl) (hks : (backToKw pos (keywordEach kws X.env)).filterMap (·.1) = ks := by rfl) (hdb : (x == ("__debug__" : Str)) = false := by decide)
    (hpl : ((backTo pos (starEach [] X.env)).any (·.1) || (backToKw pos (keywordEach kws X.env)).any (·.1.isNone)) = false := by rfl) : SE X (.Call (.Name x p) [] kws pos) (mA (fun ds => fn (permD is ds)) mk) := by
  obtain ⟨f, fd, ps, F, hm, kp, b⟩ := c.ex
  exact se_callKwG F hG (hr.mono hk) hg hm kp b hkw hall hks hdb hpl
/-- repr(x) -/
def fRepr : List D → Tree D
  | [.dct] => leaf (.str "{}")
  | [d] => if (fitD 12 d && (toPy 12 d).showable && decide ((toPy 12 d).shown.length ≤ sizeLine)) = true then leaf (.str (toPy 12 d).shown) else fail
  | _ => fail
theorem f1_repr {K : PySem.W.Frag} : Fn1 K (rRepr K) fRepr := by
  intro F H vs ds Q g p q
  unfold fRepr at q
  split at q
  · obtain ⟨v, rfl, pk⟩ := pks1 p
    cases pk with
    | rep r =>
      cases r with
      | dct h => exact .inr ⟨_, rfl, g.sub _ _ h, q _ F H (Ext.refl g) (.str _)⟩
  · split at q
    · rename_i h
      simp only [Bool.and_eq_true, decide_eq_true_eq] at h
      obtain ⟨v, rfl, pk⟩ := pks1 p
      exact .inl ⟨v, _, rfl, dpk_of g h.1.1 pk, h.1.2, PyData.hasDict_of_canLay _ (canLay_fit 12 _ h.1.1), Nat.le_trans (depth_py 12 _) (by decide), h.2, q _ F H (Ext.refl g) (.str _)⟩
    · exact q.elim
  · exact q.elim
end
section
variable {P : Program} {w : World} {K : PySem.W.Frag} {mg : Str → Option Value} {base : Heap}
theorem calG_mk {x : Str} {st : Stmt} {fn : List D → Tree D} {k : Nat} {ps : List Str} (a : At K mg x st) (c : ∀ f fd, Fun K x x st f fd → FnG P w K mg base k f fd ps (spF K fn))
    (hb : ∀ (kV doc pm : Value) (an : Option Addr) (cdv ct : Value) (us : List Value), us.length = ps.length → bindArgs (PySem.W.fnOf x x (defArgs st) (defBody st) (defScope st) .none kV doc pm an cdv ct) ⟨us, []⟩ = pure (ps.zip us)) : CalG P w K mg base k x fn := by
  obtain ⟨f, fd, F, hm⟩ := a.ex
  exact ⟨f, fd, ps, c f fd F, hm, F.kp, F.binds hb⟩
theorem kwG_of {x : Str} {st : Stmt} {fn : List D → Tree D} {k : Nat} {ps ks : List Str} {is : List Nat} (a : At K mg x st) (c : ∀ f fd, Fun K x x st f fd → FnG P w K mg base k f fd ps (spF K fn))
    (hb : ∀ (kV doc pm : Value) (an : Option Addr) (cdv ct : Value) (ws : List Value), (is.filterMap fun i => ws[i]?).length = ps.length → bindArgs (PySem.W.fnOf x x (defArgs st) (defBody st) (defScope st) .none kV doc pm an cdv ct) ⟨[], ks.zip ws⟩ = pure (ps.zip (is.filterMap fun i => ws[i]?))) :
    CalKG P w K mg base k x fn ks is := by
  obtain ⟨f, fd, F, hm⟩ := a.ex
  have F0 := F
  obtain ⟨oc, od, kV, doc, pm, an, cdv, ct, osl, e, lk, hcd⟩ := F.ex
  refine ⟨f, fd, ps, c f fd F0, hm, F.kp, ⟨fun s ws _ hl => ?_⟩⟩
  rw [e]
  exact .of_eq (hb kV doc pm an cdv ct ws hl)
end
end R

set_option Elab.async false
set_option linter.all false
set_option maxRecDepth 100000
/-! more words: xs[::-1], list(range(n)), xs + ys as one's own list -/
namespace R
open PySem PySem.Spec PyProof.Rows L2
open Tree (leaf fail)
section
variable {X : Cx} {e : Expr} {m : En → Tree D} {pos : Pos}
theorem reps_rev {K : PySem.W.Frag} {F : Fz} : ∀ {xs : List V} {ds : List D}, Reps K F xs ds → Reps K F xs.reverse ds.reverse
  | [], _, .nil => .nil
  | x :: xs, d :: ds, .cons r rs => by
    rw [List.reverse_cons, List.reverse_cons]
    exact (reps_rev rs).append (.cons r .nil)
def mRevL (m : En → Tree D) : En → Tree (List D) := fun E => (m E).bind fun d => match d with
  | .lst ds => leaf ds.reverse
  | _ => fail
theorem sl_rev {k : Nat} {p1 p2 p3 : Pos} (h : SP X e m) : SL X (.Subscript e (.Slice none none (some (.UnaryOp .USub (.Constant (.int 1) k p1) p2)) p3) pos) (mRevL m) := by
  refine ⟨PE.weak (pe_revL h.pe) fun σ H Q ⟨B, F, E, g, rl, q⟩ => ?_⟩
  refine ⟨B, F, E, g, rl, Tree.all_mono (fun d k v F1 H1 e1 p1 => ?_) (Tree.all_bind.mp q)⟩
  cases d with
  | lst ds =>
    obtain ⟨a, xs, rfl, h1, r1⟩ := p1.lst e1.good
    refine ⟨a, xs, rfl, .of h1, fun p hp => ?_⟩
    have f := e1.good.free hp
    exact k p _ F1 _ (e1.trans (Ext.new e1.good hp)) upd_same f.1 f.2 (ext_none g e1 hp) (reps_rev r1)
  | _ => exact False.elim k
theorem sl_listrg1 {p p2 q : Pos} (hc : X.calm = true) (hg : Gl X "list") (hm : X.mg "list" = none) (hg2 : Gl X "range") (hm2 : X.mg "range" = none) (ha : SP X e m) (na : starEach [e] X.env = (false, eval e X.env) :: starEach [] X.env := by rfl)
    (n1 : starEach [.Call (.Name "range" p2) [e] [] q] X.env = (false, eval (.Call (.Name "range" p2) [e] [] q) X.env) :: starEach [] X.env := by rfl) :
    SL X (.Call (.Name "list" p) [.Call (.Name "range" p2) [e] [] q] [] pos) (fun E => (m E).bind fun d => match d with
      | .int j => if (rgOk 0 && rgOk j) = true then leaf (rangeD 0 j) else fail
      | _ => fail) := by
  refine ⟨PE.weak (pe_listRg hc hg hm (prg_1 hg2 hm2 ha.pe na) n1) fun σ H Q ⟨B, F, E, g, rl, q⟩ => ?_⟩
  refine ⟨B, F, E, g, rl, Tree.all_mono (fun d k v F1 H1 e1 p1 => ?_) (Tree.all_bind.mp q)⟩
  cases d with
  | int j =>
    cases p1.int
    have k : (if (rgOk 0 && rgOk j) = true then leaf (rangeD 0 j) else fail).all _ := k
    by_cases h : (rgOk 0 && rgOk j) = true
    · rw [if_pos h] at k
      unfold rgOk at h
      simp only [Bool.and_eq_true, decide_eq_true_eq] at h
      refine ⟨j, rfl, RgOk.of_le h.1.1 h.2.2 h.1.2 h.2.1, fun l hl => ?_⟩
      have f := e1.good.free hl
      exact k l _ F1 _ (e1.trans (Ext.new e1.good hl)) upd_same f.1 f.2 (ext_none g e1 hl) (rgV_rep 0 j)
    · rw [if_neg h] at k
      exact k.elim
  | _ => exact False.elim k
end
end R

set_option Elab.async false
set_option linter.all false
set_option maxRecDepth 100000
/-! len(set(t)) of a tuple of distinct ints -/
namespace R
open PySem PySem.Spec PyProof.Rows L2
open Tree (leaf fail)
theorem nodup_len_le : ∀ {xs ys : List Int}, xs.Nodup → (∀ x ∈ xs, x ∈ ys) → xs.length ≤ ys.length
  | [], _, _, _ => Nat.zero_le _
  | x :: xs, ys, h, hs => by
    obtain ⟨h1, h2⟩ := List.nodup_cons.mp h
    have hx := hs x List.mem_cons_self
    have ih := nodup_len_le (ys := ys.erase x) h2 fun z hz => (List.mem_erase_of_ne (fun e : z = x => h1 (e ▸ hz))).mpr (hs z (List.mem_cons_of_mem _ hz))
    rw [List.length_erase_of_mem hx] at ih
    have : 0 < ys.length := List.length_pos_of_mem hx
    rw [List.length_cons]
    omega
def tLenSetB (K : PySem.W.Frag) (ta : TE) : TE := fun σ H Q => ta σ H fun x H1 => ∃ (l : Addr) (ns : List Int), x = .ref l ∧ (SqL K H1 l (ns.map V.int) ∨ SqT K H1 l (ns.map V.int)) ∧ ns.Nodup ∧ ns.length ≤ 4000 ∧ Q (.int (ns.length : Nat)) H1
theorem pe_lenSetB {X : Cx} {a : Expr} {ta : TE} {p p2 q pos : Pos} (hg : Gl X "len") (hm : X.mg "len" = none) (hg2 : Gl X "set") (hm2 : X.mg "set" = none) (ha : PE X a ta) (hc : X.calm = true := by rfl)
    (na : starEach [a] X.env = (false, eval a X.env) :: starEach [] X.env := by rfl) : PE X (.Call (.Name "len" p) [.Call (.Name "set" p2) [a] [] q] [] pos) (tLenSetB X.K ta) := by
  constructor
  intro pins s σ H Q I h
  apply Call_ (ld_blt I hg hm boot_len _)
  apply PyProof.Rows.callWith_builtin1 (PyProof.Rows.args_cons _ rfl) rfl rfl
  apply Call_ (ld_blt I hg2 hm2 boot_set _)
  apply PyProof.Rows.callWith_type1 (PyProof.Rows.args_cons (thn (ha.run pins s σ H _ I h) _) na) na rfl
  rintro v s1 ⟨x, H1, I1, r1, l, ns, rfl, hq, hnd, hl, q1⟩
  apply PyProof.Rows.args_nil
  cases r1
  rcases hq with hq | hq
  · obtain ⟨its, r, pl, _⟩ := I1.list hq
    have hn : its.toArray.size = ns.length := by rw [List.size_toArray, ← r.length, List.length_map]
    apply call_set_list (I1.ok.hd hc) pl.isList (by simpa using RZ.intsAre_vals r) (by rw [hn]; unfold scanBound; omega)
    intro h' tk hS hk
    apply PyProof.Rows.args_nil
    rw [hn, RZ.firstMet_nodup hnd ns.length (Nat.le_refl _), List.take_length] at hS
    obtain ⟨o, es, ep, t, ho, hex, hd, _, _, _, hf, hm⟩ := hS
    have I2 : Inv X pins σ H1 { s1 with heap := h', toks := tk } := I1.kept fun b o e => hk b o (Heap.lt_size e) e
    exact call_len_set ho hex hd hf (by rw [hm] <;> omega) ⟨.int ns.length, H1, I2.tok _, ⟨_, by rw [hm]⟩, q1⟩
  · obtain ⟨its, r, tp, _⟩ := I1.tuple hq
    apply call_set_tupI ns (I1.ok.hd hc) tp (by simpa using RZ.intsAre_vals r) (by unfold scanBound; omega)
    intro h' tk c hS _ hk
    apply PyProof.Rows.args_nil
    obtain ⟨o, es, ep, t, ho, hex, hd, _, knd, kmem, _, hf, hn, _⟩ := hS
    have e : c = ns.length := by
      have m : ∀ k, k ∈ es.toList.map keyOf ↔ k ∈ ns := fun k => by rw [← kmem k]; simp
      have a1 := nodup_len_le knd fun k hk => (m k).mp hk
      have a2 := nodup_len_le hnd fun k hk => (m k).mpr hk
      have z : (es.toList.map keyOf).length = es.size := by rw [List.length_map]; rfl
      rw [z] at a1 a2
      omega
    subst e
    have I2 : Inv X pins σ H1 { s1 with heap := h', toks := tk } := I1.kept hk
    exact call_len_set ho hex hd hf (by rw [hn] <;> omega) ⟨.int ns.length, H1, I2.tok _, ⟨_, by rw [hn]⟩, q1⟩
def lenSetI (ds : List D) : Tree D := withO (intsD ds) fun ns => if (nodupB ns && decide (ns.length ≤ 4000)) = true then leaf (.int ns.length) else fail
def fLenSet2 : D → Tree D
  | .lst ds => lenSetI ds
  | .tup ds => lenSetI ds
  | _ => fail
theorem lenSetI_all {ds : List D} {P : D → Prop} (h : (lenSetI ds).all P) : ∃ ns, intsD ds = some ns ∧ ns.Nodup ∧ ns.length ≤ 4000 ∧ P (.int ns.length) := by
  unfold lenSetI withO at h
  split at h
  · rename_i ns hn
    have h : (if (nodupB ns && decide (ns.length ≤ 4000)) = true then leaf (D.int ns.length) else fail).all P := h
    split at h
    · rename_i hk
      rw [Bool.and_eq_true, decide_eq_true_eq] at hk
      exact ⟨ns, hn, nodup_of hk.1, hk.2, h⟩
    · exact h.elim
  · exact h.elim
theorem se_lenset2 {X : Cx} {e : Expr} {m : En → Tree D} {p p2 q pos : Pos} (hg : Gl X "len") (hm : X.mg "len" = none) (hg2 : Gl X "set") (hm2 : X.mg "set" = none) (ha : SP X e m) (hc : X.calm = true := by rfl) (na : starEach [e] X.env = (false, eval e X.env) :: starEach [] X.env := by rfl) :
    SE X (.Call (.Name "len" p) [.Call (.Name "set" p2) [e] [] q] [] pos) (m1 fLenSet2 m) := by
  refine ⟨PE.weak (pe_lenSetB hg hm hg2 hm2 ha.pe hc na) fun σ H Q ⟨B, F, E, g, rl, q⟩ => ?_⟩
  refine ⟨B, F, E, g, rl, Tree.all_mono (fun d k v F1 H1 e1 p1 => ?_) (Tree.all_bind.mp q)⟩
  cases d with
  | lst ds =>
    obtain ⟨ns, hn, h1, h2, h3⟩ := lenSetI_all k
    obtain ⟨a, xs, rfl, hh, r1⟩ := p1.lst e1.good
    have := ints_of hn r1
    subst this
    exact ⟨a, ns, rfl, .inl (.of hh), h1, h2, h3 _ F1 H1 e1 (.int _)⟩
  | tup ds =>
    obtain ⟨ns, hn, h1, h2, h3⟩ := lenSetI_all k
    obtain ⟨a, xs, rfl, hh, r1⟩ := p1.tup e1.good
    have := ints_of hn r1
    subst this
    exact ⟨a, ns, rfl, .inr hh, h1, h2, h3 _ F1 H1 e1 (.int _)⟩
  | _ => exact False.elim k
end R

set_option Elab.async false
set_option linter.all false
set_option maxRecDepth 100000
/-! more words: {} (an empty dict that stays so), t[::-1] of a tuple -/
namespace HT
open PySem PySem.Spec PyProof.Rows
section
variable {prog : Program} {w : World} {A : Around} {E : Value → Shared → Prop} {s : Shared}
theorem adjust_back (n : Nat) : Builtin.Slice.sliceAdjust none none (-1) (n : Int) = ((n : Int) - 1, -1) := by
  unfold Builtin.Slice.sliceAdjust
  simp
theorem places_back (n : Nat) : Builtin.Slice.slicePlaces ((n : Int) - 1) (-1) (-1) = n := by
  unfold Builtin.Slice.slicePlaces
  simp only [show ¬ ((-1 : Int) > 0) by omega, if_false, show (-(-1 : Int)) = 1 by decide, Int.ediv_one]
  split <;> omega
theorem sliceApplied_back {sl : Addr} {vl vu vs : Value} {n : Nat} {Q : Int × Int × Nat → Shared → Prop} (hs : s.heap.IsSliceOf sl vl vu vs) (pl : IsPart vl none) (pu : IsPart vu none) (ps : IsPart vs (some (-1)))
    (h : Q ((n : Int) - 1, -1, n) s) : wpAny (model prog w) A (Builtin.Slice.sliceApplied (.ref sl) (pure (n : Int))) Q E s := by
  obtain ⟨os, hos, hcs, hds⟩ := id hs
  unfold Builtin.Slice.sliceApplied Builtin.Slice.sliceFields
  refine wpAny_bind (wpAny_bind (wpAny_field hos hds (x := vl) rfl (wpAny_bind (wpAny_field hos hds (x := vu) rfl (wpAny_bind (wpAny_field hos hds (x := vs) rfl (wpAny_pure ?_)))))))
  refine wpAny_bind (slicePart_ ps ?_)
  show wpAny _ _ (if ((-1 : Int) == 0) = true then _ else _) _ _ s
  rw [if_neg (by decide)]
  refine wpAny_bind (slicePart_ pl (wpAny_bind (slicePart_ pu (wpAny_bind (wpAny_pure ?_)))))
  show wpAny _ _ (match Builtin.Slice.sliceAdjust none none (-1) (n : Int) with | (lo, hi) => pure (lo, (-1 : Int), Builtin.Slice.slicePlaces lo hi (-1))) _ _ s
  rw [adjust_back n]
  show wpAny _ _ (pure ((n : Int) - 1, (-1 : Int), Builtin.Slice.slicePlaces ((n : Int) - 1) (-1) (-1))) _ _ s
  rw [places_back]
  exact wpAny_pure h
theorem filterMap_some {α β : Type} (f : α → Option β) (g : α → β) : ∀ L : List α, (∀ x ∈ L, f x = some (g x)) → L.filterMap f = L.map g
  | [], _ => rfl
  | x :: L, h => by
    rw [List.filterMap_cons, h x List.mem_cons_self, List.map_cons, filterMap_some f g L fun y hy => h y (List.mem_cons_of_mem _ hy)]
theorem pick_back (xs : Array Value) : ((List.range xs.size).filterMap fun (m : Nat) => xs[(((xs.size : Nat) : Int) - 1 + (m : Int) * (-1)).toNat]?).toArray = xs.toList.reverse.toArray := by
  congr 1
  rw [filterMap_some _ (fun m => xs.toList.reverse.getD m .none) _ (fun m hm => ?_)]
  · refine List.ext_getElem (by simp) fun i h1 h2 => ?_
    rw [List.getElem_map, List.getElem_range]
    rw [List.getD_eq_getElem?_getD, List.getElem?_eq_getElem h2]
    rfl
  · have hm := List.mem_range.mp hm
    have e : (((xs.size : Nat) : Int) - 1 + (m : Int) * (-1)).toNat = xs.size - 1 - m := by omega
    rw [e]
    rw [List.getD_eq_getElem?_getD, List.getElem?_reverse (by simpa using hm)]
    simp only [Array.length_toList]
    rw [Array.getElem?_toList]
    have h3 : xs.size - 1 - m < xs.size := by omega
    rw [Array.getElem?_eq_getElem h3]
    rfl
theorem getItem_tuple_back {t sl : Addr} {items : Array Value} {vl vu vs : Value} {Q : Value → Shared → Prop} (ht : IsTup s.heap t items) (hs : s.heap.IsSliceOf sl vl vu vs) (pl : IsPart vl none) (pu : IsPart vu none) (ps : IsPart vs (some (-1)))
    (h : Q (.ref s.heap.objs.size) { s with heap := s.heap.push { cls := .type "tuple", data := .seq items.toList.reverse.toArray } })
    (hsz : items.size ≤ sizeLine) : wpAny (model prog w) A (getItem (.ref t) (.ref sl)) Q E s := by
  have htake : sizeOk (.seq items.toList.reverse.toArray) := by
    show items.toList.reverse.toArray.size ≤ sizeLine
    rw [List.size_toArray, List.length_reverse, Array.length_toList]
    exact hsz
  obtain ⟨os, hos, hcs, hds⟩ := id hs
  have hTs : s.TypeIs (.ref sl) "slice" := ⟨os, hos, hcs⟩
  unfold getItem
  try with_reducible refine wpAny_holding ?_
  first | refine wpAny_bind (wpAny_pure ?_) | skip
  refine wpAny_bind (wpAny_sequenceKey ht.typeIs (by decide) ?_)
  refine wpAny_bind (wpAny_callSpecial?_slot (name := Str.ofString "__getitem__") ht.typeIs PyProof.Rows.slot_tuple_getitem
    (wpAny_call_entry PyProof.Rows.slot_tuple_getitem ht.typeIs entry_tuple_getitem ?_ (args_tuple_getitem _ _)))
  show wpAny _ _ (Builtin.Tuple.tupleItemsOf (.ref t) >>= _) _ _ s
  refine wpAny_bind (tupleItemsOf_ ht ?_)
  refine wpAny_bind (wpAny_typeOf hTs ?_)
  rw [if_pos (by decide)]
  refine wpAny_bind (sliceApplied_back hs pl pu ps ?_)
  have hno : ¬ (((((items.size : Nat) : Int) - 1) == 0 && (-1 : Int) == 1 && items.size == items.size) = true) := by
    intro q
    rw [Bool.and_eq_true, Bool.and_eq_true] at q
    exact absurd q.1.2 (by decide)
  show wpAny _ _ (if ((((items.size : Nat) : Int) - 1) == 0 && (-1 : Int) == 1 && items.size == items.size) = true then _ else _) _ _ s
  rw [if_neg hno, pick_back]
  first
    | exact wpAny_bind (m := Builtin.Tuple.tupleExact _) (wpAny_newObj_type (wpAny_pure ⟨_, rfl, wpAny_pure h⟩) htake)
    | exact wpAny_bind (m := Builtin.Tuple.tupleExact _) (wpAny_newObj_type (wpAny_bind (wpAny_pure (wpAny_pure ⟨_, rfl, wpAny_pure h⟩))) htake)
    | exact wpAny_bind (wpAny_bind (m := Builtin.Tuple.tupleExact _) (wpAny_newObj_type (wpAny_pure (wpAny_pure ⟨_, rfl, wpAny_pure h⟩)) htake))
    | exact wpAny_bind (wpAny_bind (m := Builtin.Tuple.tupleExact _) (wpAny_newObj_type (wpAny_pure ⟨_, rfl, wpAny_pure h⟩) htake))
end
end HT
namespace R
open PySem PySem.Spec PyProof.Rows L2
open Tree (leaf fail)
section
variable {X : Cx} {e : Expr} {m : En → Tree D} {pos : Pos}
/-- xs[::-1], a list or a tuple: the value as it stands, new -/
def tRevA (K : PySem.W.Frag) (te : TE) : TE := fun σ H Q => te σ H fun x H1 => ∃ a xs, x = .ref a ∧ ((SqL K H1 a xs ∧ ∀ p, H1 p = none → Q (.ref p) (upd H1 p (.lst xs.reverse))) ∨ (SqT K H1 a xs ∧ ∀ p, H1 p = none → Q (.ref p) (upd H1 p (.tup xs.reverse))))
theorem pe_revA {e : Expr} {te : TE} {k : Nat} {p1 p2 p3 pos : Pos} (he : PE X e te) : PE X (.Subscript e (.Slice none none (some (.UnaryOp .USub (.Constant (.int 1) k p1) p2)) p3) pos) (tRevA X.K te) := by
  refine ⟨fun pins s σ H Q I h => ?_⟩
  refine Subscript_ (thn (he.run pins s σ H _ I h) fun v s1 ⟨x, H1, I1, r1, q1⟩ => ?_)
  obtain ⟨a, xs, ex, q⟩ := q1
  subst ex
  cases r1
  have hst : PO X (some (.UnaryOp .USub (.Constant (.int 1) k p1) p2)) (tPart (tUn (rU fun i => .int (-i)) (tC (.int 1)))) := po_some (pe_un un_neg pe_int)
  refine wpAny_Slice (thn (po_none.run pins s1 σ H1 (fun o H2 => o = none ∧ H2 = H1) I1 ⟨rfl, rfl⟩) fun vl s2 ⟨l, H2, I2, pl, el, e2⟩ => ?_)
  subst el e2
  refine thn (po_none.run pins s2 σ H2 (fun o H3 => o = none ∧ H3 = H2) I2 ⟨rfl, rfl⟩) fun vu s3 ⟨u, H3, I3, pu, eu, e3⟩ => ?_
  subst eu e3
  refine thn (hst.run pins s3 σ H3 (fun o H4 => o = some (-1) ∧ H4 = H3) I3 ⟨1, rfl, -1, rfl, rfl, rfl⟩) fun vs s4 ⟨o, H4, I4, ps, eo, e4⟩ => ?_
  subst eo e4
  have I5 : Inv X pins σ H4 { s4 with heap := s4.heap.push { cls := .type "slice", data := .fields #[vl, vu, vs] } } := I4.kept (t' := s4.toks) fun b ob q => Heap.get?_push_of_some _ q
  show wpAny (model X.prog X.w) X.A (subscriptTail e (.Slice none none (some (.UnaryOp .USub (.Constant (.int 1) k p1) p2)) p3) (.ref a) (.ref s4.heap.objs.size)) (EP X pins σ Q) X.xe { s4 with heap := s4.heap.push { cls := .type "slice", data := .fields #[vl, vu, vs] } }
  rcases q with ⟨hx, q⟩ | ⟨hx, q⟩
  · obtain ⟨its, r, ht, hz⟩ := I5.list hx
    have hlen := r.length
    refine tail_any (ops := [.ref a, .ref s4.heap.objs.size]) ht.isList.typeIs (PySem.slot_list_getitem.lookup) ?_ (by with_unfolding_all rfl)
    refine wpAny_getItem_list_slice ht.isList (Heap.IsSliceOf.new _ vl vu vs) pl pu ps (by decide) ?_ (by rw [List.size_toArray]; omega)
    rw [PySem.W.krv_pick]
    refine ⟨.ref _, _, I5.laid (t' := s4.toks) (o := .lst xs.reverse) (fun b ob q => Heap.get?_push_of_some _ q) (Nat.le_refl _) ?_, rfl, q _ (I5.hok.fresh (Nat.le_refl _))⟩
    exact ⟨by rw [List.length_reverse]; exact hz, _, 0, r.reverse, Heap.get?_push_size _ rfl⟩
  · obtain ⟨its, r, ht, hz⟩ := I5.tuple hx
    have hlen := r.length
    refine tail_any (ops := [.ref a, .ref s4.heap.objs.size]) ht.typeIs (PyProof.Rows.slot_tuple_getitem.lookup) ?_ (by with_unfolding_all rfl)
    refine HT.getItem_tuple_back ht (Heap.IsSliceOf.new _ vl vu vs) pl pu ps ?_ (by rw [List.size_toArray]; omega)
    refine ⟨.ref _, _, I5.laid (t' := s4.toks) (o := .tup xs.reverse) (fun b ob q => Heap.get?_push_of_some _ q) (Nat.le_refl _) ?_, rfl, q _ (I5.hok.fresh (Nat.le_refl _))⟩
    exact ⟨by rw [List.length_reverse]; exact hz, _, r.reverse, IsTup.new _ _⟩
def mRevA (m : En → Tree D) : En → Tree D := fun E => (m E).bind fun d => match d with
  | .lst ds => leaf (.lst ds.reverse)
  | .tup ds => leaf (.tup ds.reverse)
  | _ => fail
theorem se_revA {k : Nat} {p1 p2 p3 : Pos} (h : SP X e m) : SE X (.Subscript e (.Slice none none (some (.UnaryOp .USub (.Constant (.int 1) k p1) p2)) p3) pos) (mRevA m) := by
  refine ⟨PE.weak (pe_revA h.pe) fun σ H Q ⟨B, F, E, g, rl, q⟩ => ?_⟩
  refine ⟨B, F, E, g, rl, Tree.all_mono (fun d k v F1 H1 e1 p1 => ?_) (Tree.all_bind.mp q)⟩
  cases d with
  | lst ds =>
    obtain ⟨a, xs, rfl, h1, r1⟩ := p1.lst e1.good
    refine ⟨a, xs, rfl, .inl ⟨.of h1, fun p hp => ?_⟩⟩
    exact k _ (F1.add p (.lst _)) _ (e1.trans (Ext.addNew e1.good hp)) (.lst upd_same ((reps_rev r1).mono (Fz.le_add (e1.good.free hp).1)))
  | tup ds =>
    obtain ⟨a, xs, rfl, h1, r1⟩ := p1.tup e1.good
    refine ⟨a, xs, rfl, .inr ⟨h1, fun p hp => ?_⟩⟩
    exact k _ (F1.add p (.tup _)) _ (e1.trans (Ext.addNew e1.good hp)) (.tup (.of upd_same) ((reps_rev r1).mono (Fz.le_add (e1.good.free hp).1)))
  | _ => exact False.elim k
/-- {} -/
theorem se_dct : SE X (.Dict [] [] pos) (fun _ => leaf .dct) := by
  refine ⟨PE.weak pe_dnewK fun σ H Q ⟨B, F, E, g, rl, q⟩ => fun p hp => ?_⟩
  exact q _ (F.add p (.dK [])) _ (Ext.addNew g hp) (.dct upd_same)
/-- xs + ys as a list of one's own -/
def opAddL : D → D → Tree (List D)
  | .lst xs, .lst ys => lineOk (xs.length + ys.length) (leaf (xs ++ ys))
  | _, _ => fail
def mAddL (ma mb : En → Tree D) : En → Tree (List D) := fun E => (ma E).bind fun d => (mb E).bind fun e => opAddL d e
theorem sl_add {a b : Expr} {ma mb : En → Tree D} (ha : SP X a ma) (hb : SP X b mb) : SL X (.BinOp a .Add b pos) (mAddL ma mb) := by
  refine ⟨PE.weak (pe_op op_cat ha.pe hb.pe) fun σ H Q ⟨B, F, E, g, rl, q⟩ => ?_⟩
  refine ⟨B, F, E, g, rl, Tree.all_mono (fun d k v F1 H1 e1 p1 => ?_) (Tree.all_bind.mp q)⟩
  refine ⟨B, F1, E, e1.good, rl.ext e1, Tree.all_mono (fun e k u F2 H2 e2 p2 => ?_) (Tree.all_bind.mp k)⟩
  have p1 := p1.ext e2
  unfold opAddL at k
  split at k
  · obtain ⟨hl, k⟩ := lineOk_all k
    obtain ⟨a, xs, rfl, h1, r1⟩ := p1.lst e2.good
    obtain ⟨b, ys, rfl, h2, r2⟩ := p2.lst e2.good
    refine ⟨a, b, xs, ys, rfl, rfl, h1, h2, by rw [r1.length, r2.length]; exact hl, fun p hp => ?_⟩
    have f := e2.good.free hp
    exact k p _ F2 _ ((e1.trans e2).trans (Ext.new e2.good hp)) upd_same f.1 f.2 (ext_none g (e1.trans e2) hp) (r1.append r2)
  · exact k.elim
end
end R

set_option Elab.async false
set_option linter.all false
set_option maxRecDepth 100000
set_option maxHeartbeats 2000000
/-! defs that may raise one exception of the program's own; x(lambda: f(..)), x a def that hears that exception -/
namespace R
open PySem PySem.Spec PyProof.Rows L2
open Tree (leaf fail)
/-! ### blocks that may raise C -/
def tSX (K : PySem.W.Frag) (W : WX) (C : Value) (m : En → Tree (Option Out)) : TS := fun D0 σ H => ∃ F0 H0 F E, Ext F0 H0 F H ∧ RelE K (B0 H0) F H σ E ∧ (m E).all fun o => match o with
  | some o => Post K F0 H0 F D0 o
  | none => ∀ σ' F' H', Ext F0 H0 F' H' → F.Le F' → W C none σ' H'
structure SSX (X : Cx) (W : WX) (C : Value) (ss : List Stmt) (m : En → Tree (Option Out)) : Prop where
  ps : PSs X ss (tSX X.K W C m)
section
variable {X : Cx} {W : WX} {C : Value} {st : Stmt} {rest : List Stmt} {m : En → Tree Out} {n : En → Tree (Option Out)} {pos : Pos}
def oLift (m : En → Tree Out) : En → Tree (Option Out) := fun E => (m E).bind fun o => leaf (some o)
theorem ssx_one (h : SS X st m) : SSX X W C [st] (oLift m) := ⟨PSs.weak (pss_one h.ps) fun D0 σ H ⟨F0, H0, F, E, e, r, q⟩ => ⟨F0, H0, F, E, e, r, Tree.all_mono (fun o k => k) (Tree.all_bind.mp q)⟩⟩
def oSeqX (m : En → Tree Out) (n : En → Tree (Option Out)) : En → Tree (Option Out) := fun E => (m E).bind fun o => match o with
  | .nx E' => n E'
  | o => leaf (some o)
theorem ssx_cons (h1 : SS X st m) (h2 : SSX X W C rest n) : SSX X W C (st :: rest) (oSeqX m n) := by
  refine ⟨PSs.weak (pss_cons h1.ps h2.ps) fun D0 σ H ⟨F0, H0, F, E, e, r, q⟩ => ?_⟩
  refine ⟨F0, H0, F, E, e, r, Tree.all_mono (fun o k => ?_) (Tree.all_bind.mp q)⟩
  cases o with
  | nx E' => exact fun σ' F' H' e' l r' => ⟨F0, H0, F', E', e', r', Tree.all_mono (fun o h => by
      cases o with
      | none => exact fun σ2 F2 H2 e2 l2 => h σ2 F2 H2 e2 (l.trans l2)
      | some o => exact Post.le l h) k⟩
  | rt d => exact k
  | bk E' => exact k
  | ct E' => exact k
/-- if c: raise C(), then the rest -/
def oRaiseIf (c : En → Tree Bool) (n : En → Tree (Option Out)) : En → Tree (Option Out) := fun E => (c E).bind fun b => if b = true then leaf none else n E
theorem ssx_raise {c e : Expr} {mc : En → Tree Bool} {rpos : Pos} (hcalm : X.calm = true) (tk : Takes X W) (hm : PMk X e fun _ H Q => Q C none H) (hc : ST X c mc) (h2 : SSX X W C rest n) :
    SSX X W C (.If c [.Raise (some e) none rpos] [] pos :: rest) (oRaiseIf mc n) := by
  refine ⟨PSs.weak (pss_cons (ps_if hc.pt (pss_one (ps_raise hcalm tk hm)) pss_nil) h2.ps) fun D0 σ H ⟨F0, H0, F, E, e, r, q⟩ => ?_⟩
  refine ⟨B0 H0, F, E, e.good, r, Tree.all_mono (fun b k F1 H1 e1 => ?_) (Tree.all_bind.mp q)⟩
  cases b with
  | true => exact (show (leaf (none : Option Out)).all _ from k) σ F1 H1 (e.trans e1) e1.le
  | false => exact ⟨F0, H0, F1, E, e.trans e1, r.ext e1, Tree.all_mono (fun o h => by
      cases o with
      | none => exact fun σ2 F2 H2 e2 l2 => h σ2 F2 H2 e2 (e1.le.trans l2)
      | some o => exact Post.le e1.le h) (show (n E).all _ from k)⟩
/-- X() of a class of the program's own over a built-in exception -/
theorem pmk_own0 {CA : Addr} {bmB : List Value} {B newId initId : String} {x : Str} {p : Pos} (F : ExcBaseFacts B newId initId bmB) (q : PySem.W.excIn X.K CA bmB newId = true) (gC : X.mg x = some (.ref CA)) (kC : PySem.W.keepIn X.K (.ref CA) = true) (r : Raises X (.ref CA)) (hg : Gl X x)
    (hdb : (x == ("__debug__" : Str)) = false := by decide) : PMk X (.Call (.Name x p) [] [] pos) (fun _ H Q => Q (.ref CA) none H) := by
  intro pins s σ H Q I h
  refine wpAny_Call_Name_kw (ld_glob I hg gC ?_ hdb)
  refine PySem.W.callWith_K0 I.kIn kC ?_
  show wpAny _ _ (call (.ref CA) []) _ _ _
  obtain ⟨bm, N, nm, qn, bs, hdct, sn, sub, ab, col, dd, k0, k1, k2, k3, k5, mN, hC, hN, hni, T⟩ := exc_obj I.kIn q
  refine wpAny_call_exc_subT F T hC hN hni (fun h' e hm => ?_) (Nat.zero_le _)
  exact mk_of I hm r h (I.hok.gone hm.new)
end
/-! ### a def's promise -/
def spX (K : PySem.W.Frag) (C : Value) (f : List D → Tree (Option D)) : Sp := fun vs H Q E => ∃ F ds, Good F H ∧ Reps K F vs ds ∧ (f ds).all fun o => match o with
  | some d => ∀ v F' H', Ext F H F' H' → Rep K F' v d → Q v H'
  | none => ∀ F' H', Ext F H F' H' → E C none H'
def mDefX (np n : Nat) (m : En → Tree (Option Out)) : List D → Tree (Option D) := fun ds => if ds.length = np then (m (En.start n ds)).bind fun o => match o with
  | none => leaf none
  | some (.nx _) => leaf (some .non)
  | some (.rt d) => leaf (some d)
  | _ => fail
  else fail
def noX (f : List D → Tree (Option D)) : List D → Tree D := fun ds => (f ds).bind fun o => match o with
  | some d => leaf d
  | none => fail
section
variable {P : Program} {w : World} {K : PySem.W.Frag} {mg : Str → Option Value} {base : Heap}
theorem def_okX {x qual : Str} {st : Stmt} {f : Addr} {fd : FuncData} {N ps : List Str} {k : Nat} {C : Value} {m : En → Tree (Option Out)} (np n : Nat) (F : Fun K x qual st f fd) (S : FnScope N ps (defScope st)) (hn : N.length = n) (hp : ps.length = np)
    (hbody : ∀ (cdv : Value) (A : Around) (outer : List Env) (s : Shared) (H : Hp) (E : XK), Room k (A.deeper (envOfC qual (defScope st) s.heap.objs.size f cdv)) →
      SSX (cxOf (L2.CX P w) P w K mg base N qual (defScope st) f cdv A outer s H E) (fun cls d _ H => E cls d H) C (defBody st) m) : FnOk P w K mg base (L2.CX P w) (k + 1) f fd ps (spX K C (mDefX np n m)) := by
  subst hn hp
  refine F.okX S (fun vs H Q E ⟨F, ds, g, r, q⟩ => ?_) (fun cdv A outer s H vs Q E hr h => ?_)
  · unfold mDefX at q
    split at q
    · rename_i h; rw [r.length]; exact h
    · exact q.elim
  · obtain ⟨F, ds, g, r, q⟩ := h
    refine ⟨_, (hbody cdv A outer s H E hr).ps, F, H, F, En.start N.length ds, Ext.refl g, rel_start r N, ?_⟩
    unfold mDefX at q
    split at q
    · refine Tree.all_mono (fun o k => ?_) (Tree.all_bind.mp q)
      cases o with
      | none => exact fun σ' F' H' e l => k F' H' e
      | some o =>
        cases o with
        | nx E => exact fun σ' F' H' e l r => k .non F' H' e .non
        | rt d => exact fun v F' H' e l r => k v F' H' e r
        | bk E => exact False.elim k
        | ct E => exact False.elim k
    · exact q.elim
/-- where it does not raise it is a def like others -/
theorem FnG.ofX {k : Nat} {f : Addr} {fd : FuncData} {ps : List Str} {C : Value} {fx : List D → Tree (Option D)} (F : FnOk P w K mg base (L2.CX P w) k f fd ps (spX K C fx)) : FnG P w K mg base k f fd ps (spF K (noX fx)) := by
  have cv : ∀ vs H Q E, spF K (noX fx) vs H Q E → spX K C fx vs H Q E0 := fun vs H Q E ⟨F, ds, g, r, q⟩ => ⟨F, ds, g, r, Tree.all_mono (fun o k => by
    cases o with
    | some d => exact k
    | none => exact False.elim k) (Tree.all_bind.mp q)⟩
  refine ⟨fun vs H Q E h => F.len _ _ _ _ (cv vs H Q E h), fun A over s H args us vs Q E _ hr e0 hb hv h => ?_⟩
  refine codeAny_mono (F.run A over s H args us vs Q E0 hr e0 hb hv (cv vs H Q E h)) fun r s' hq => ?_
  cases r with
  | error e =>
    obtain ⟨_, _, _, _, _, _, _, _, _, _, _, _, z⟩ := hq
    exact z.elim
  | ok fl => cases fl <;> exact hq
end
structure CalX (P : Program) (w : World) (K : PySem.W.Frag) (mg : Str → Option Value) (base : Heap) (k : Nat) (x : Str) (C : Value) (fn : List D → Tree (Option D)) : Prop where
  ex : ∃ (f : Addr) (fd : FuncData) (ps : List Str), FnOk P w K mg base (L2.CX P w) k f fd ps (spX K C fn) ∧ mg x = some (.ref f) ∧ PySem.W.keepIn K (.ref f) = true ∧ Binds K fd ps []
structure CalKX (P : Program) (w : World) (K : PySem.W.Frag) (mg : Str → Option Value) (base : Heap) (k : Nat) (x : Str) (C : Value) (fn : List D → Tree (Option D)) (ks : List Str) (is : List Nat) : Prop where
  ex : ∃ (f : Addr) (fd : FuncData) (ps : List Str), FnOk P w K mg base (L2.CX P w) k f fd ps (spX K C fn) ∧ mg x = some (.ref f) ∧ PySem.W.keepIn K (.ref f) = true ∧ KwBinds K fd ps ks is
end R

set_option Elab.async false
set_option linter.all false
set_option maxRecDepth 100000
set_option maxHeartbeats 2000000
/-! x(lambda: f(..)): x hears one exception -/
namespace R
open PySem PySem.Spec PyProof.Rows L2 LamX
open Tree (leaf fail)
/-- told = None / try: told = a() / except e: told = ret / return told -/
theorem heard_gives {X : Cx} {Ng : List Str} {x a e q ret told : Str} {sg : Scope} {g CS : Addr} {cdg : Value} {j j0 : Nat} {p1 p2 p3 p4 p5 p6 p7 p8 p9 p10 p11 p12 p13 p14 p15 : Pos} (nd : Ng.Nodup) (h2 : Ng.length = 2) (h1 : Ng[1]? = some told) (hl : Loc sg told) (hv : Vis sg told)
    (hge : sg.names.lookup e = some .globalImplicit) (hme : X.mg e = some (.ref CS)) (hde : (e == ("__debug__" : Str)) = false) (hdt : (told == ("__debug__" : Str)) = false) (hct : (told == ("__classdict__" : Str)) = false)
    (hlt : sg.names.lookup told = some .local) :
    GivesTo X Ng x sg g cdg [.Assign [.Name told p1] (.Constant .none j0 p2) p3, .Try [.Assign [.Name told p4] (.Call (.Name a p5) [] [] p6) p7] [.ExceptHandler (some (.Name e p8)) none [.Assign [.Name told p9] (.Constant (.str ret) j p10) p11] p12] [] [] p13, .Return (some (.Name told p14)) p15] a q (TTold X.K CS ret) := by
  intro f c' s H Q tl act hc h
  have hgl : Gl (cxOf C8.CX0 X.prog X.w X.K X.mg X.base Ng x sg g cdg X.A X.stack s H C8.E0).nox e := hge
  have st0 : (L2.start Ng [V.ref f])[0]? = some (some (V.ref f)) := by
    match Ng, h2 with
    | [u, v], _ => rfl
  have stl : (L2.start Ng [V.ref f]).length = 2 := by
    match Ng, h2 with
    | [u, v], _ => rfl
  refine ⟨_, pss_cons (ps_set (i := 1) nd h1 hl pe_non (hf := .inr hlt)) (pss_cons (ps_try_only (X := (cxOf C8.CX0 X.prog X.w X.K X.mg X.base Ng x sg g cdg X.A X.stack s H C8.E0).nox) (c := .ref CS)
      (tb := fun W D σ H => ∃ Ech : XK, (∀ cls d σ' H', Ech cls d H' → W cls d σ' H') ∧ σ[0]? = some (some (.ref f)) ∧ H c' = some (CodeO c' q) ∧ tl Ech H fun v H' => D.nx (σ.set 1 (some v)) H')
      (ts := fun _ _ _ D σ H => σ.length = 2 → D.nx (σ.set 1 (some (.str ret))) H)
      rfl rfl ⟨hgl, hde, .inl hme⟩ L2.takes0 (fun W pn xe tk _ => ?_) (fun ea oe cls d pn _ _ => ?_)) (pss_one (ps_ret (pe_var h1 hv hdt hct)))), ?_⟩
  · refine ⟨fun pins s' σ H' D I h' => ?_⟩
    obtain ⟨Ech, hW, k1, k2, k3⟩ := h'
    have hp := act W pn xe Ech p5 p6 tk hW
    have hq := pss_one (ps_set (i := 1) (pos := p7) (pos' := p4) nd h1 hl hp (hf := .inr hlt))
    exact hq.run pins s' σ H' D I ⟨k1, k2, k3⟩
  · refine ⟨fun pins s' σ H' D I h' => ?_⟩
    have hq : PSs ((cxOf C8.CX0 X.prog X.w X.K X.mg X.base Ng x sg g cdg X.A X.stack s H C8.E0).nox.suite ea ((ea, oe) :: pn)) [.Assign [.Name told p9] (.Constant (.str ret) j p10) p11] (tAsg (tC (.str ret)) (gName 1)) := pss_one (ps_set nd h1 hl pe_str (hf := .inr hlt))
    exact hq.run pins s' σ H' D I (h' (I.len.trans h2))
  · refine ⟨fun cls _ H' => ∃ b, PySem.W.exmOne X.K cls (.ref CS) = some b ∧ (b = true → Q (.str ret) H') ∧ (b = false → False), fun cls d σ' H' ⟨b, e1, e2, e3⟩ => ⟨b, e1, fun hb a _ hl => ⟨_, List.getElem?_set_self (by rw [hl]; decide), e2 hb⟩, fun hb => e3 hb⟩, ?_, hc, ?_⟩
    · rw [List.getElem?_set_ne (by decide)]; exact st0
    · have e1 : ∀ (σ : L2.St) (hσ : σ.length = 2), (fun (v : V) (H' : Hp) => ∃ v', (σ.set 1 (some v))[1]? = some (some v') ∧ Q v' H') = Q := fun σ hσ => funext fun v => funext fun H' => propext ⟨fun ⟨v', e, q⟩ => by
        rw [List.getElem?_set_self (by rw [hσ]; decide)] at e
        cases e
        exact q, fun q => ⟨v, List.getElem?_set_self (by rw [hσ]; decide), q⟩⟩
      show tl _ H (fun (v : V) (H' : Hp) => ∃ v', (((L2.start Ng [V.ref f]).set 1 (some .non)).set 1 (some v))[1]? = some (some v') ∧ Q v' H')
      rw [e1 _ (by rw [List.length_set]; exact stl)]
      exact h
def mHeard (ret : Str) (fx : List D → Tree (Option D)) (ma : En → Tree (List D)) : En → Tree D := fun E => (ma E).bind fun ds => (fx ds).bind fun o => match o with
  | some d => leaf d
  | none => leaf (.str ret)
section
variable {X : Cx} {k : Nat} {x a q ret : Str} {st : Stmt} {Ng : List Str} {CS c P : Addr} {params : Arguments} {body : Expr} {scope : Scope} {lpos p pos : Pos} {fx : List D → Tree (Option D)} {ma : En → Tree (List D)}
/-- tables grow: all else stays -/
theorem ext_tabs {F : Fz} {H H1 : Hp} (g : Good F H) (e : ExtN H H1) (t : Tabs TB H1) : Ext F H F H1 :=
  ⟨⟨fun a o h => e a o (g.sub a o h) fun ps z => g.nt a ps (z ▸ h), fun a ta => by
      obtain ⟨n, x, y, h, r⟩ := g.pot a ta
      exact ⟨n, x, y, e a _ h (fun ps z => by cases z), r⟩, g.nt, t⟩, Same.refl _, fun _ h => h, fun a o h _ nt => e a o h nt, fun _ h => h.elim .inl fun z => .inr (.inl z)⟩
/-- x(lambda: body), body a call that may raise CS -/
theorem se_heard (aH : At X.K X.mg x st) (Sg : FnScope Ng [a] (defScope st)) (hNg : Ng[0]? = some a) (hva : Vis (defScope st) a)
    (hbi : ∀ (kV doc pm : Value) (an : Option Addr) (cdv ct : Value) (us : List Value), us.length = 1 → bindArgs (PySem.W.fnOf x x (defArgs st) (defBody st) (defScope st) .none kV doc pm an cdv ct) ⟨us, []⟩ = pure ([a].zip us))
    (hG : ∀ (g : Addr) (cdg : Value), GivesTo X Ng x (defScope st) g cdg (defBody st) a (X.env.qual ++ "<lambda>") (TTold X.K CS ret)) (tb : TabB X.base X.mg c P) (hcode : X.env.code = .ref c) (hmT : (P, X.env.qual ++ "<lambda>") ∈ TB)
    (hu : ∀ p ∈ TB, p.1 = P → p.2 = X.env.qual ++ "<lambda>") (hr : Room (k + 2) X.A) (hgl : Gl X x) (eC : PySem.W.exmOne X.K (.ref CS) (.ref CS) = some true) (L : LamS X.env.scope scope)
    (hbody : ∀ (A : Around) (outer : List Env) (s : Shared) (H : Hp) (E : XK) (f c' : Addr), Room k (A.deeper (lamEnv X scope s.heap.objs.size f c')) → PE (lamCx X A outer s H E scope f c') body (tCallS (spX X.K (.ref CS) fx) (fun _ => E) (tA X.K ma)))
    (hdef : defaultsOf params X.env = ([], []) := by rfl)
    (hbind : ∀ (q : Str) (cl : List (Str × Addr)) (pm cv ctv : Value), bindArgs (PySem.W.kla_fn "<lambda>" q params body scope cl pm cv ctv) ⟨[], []⟩ = pure [] := by intros; rfl)
    (hdb : (x == ("__debug__" : Str)) = false := by decide) (hd : (a == ("__debug__" : Str)) = false := by decide) (hcd : (a == ("__classdict__" : Str)) = false := by decide) :
    SE X (.Call (.Name x p) [.Lambda params body scope lpos] [] pos) (mHeard ret fx ma) := by
  obtain ⟨g, fd, Fg, hm⟩ := aH.ex
  have Fg0 := Fg
  obtain ⟨oc, od, kV, doc, pm, an, cdv, ct, osl, e, lk, hcd'⟩ := Fg.ex
  subst e
  refine ⟨PE.weak (pe_lamcall (T := TB) (TT := TTold X.K CS ret) hgl hm Fg0.kp lk hcd' (Fg0.binds hbi) Sg hNg hva (hG g cdv) tb hcode hmT hu hr L hdef hbind (t := fun E => tCallS (spX X.K (.ref CS) fx) (fun _ => E) (tA X.K ma)) hbody hdb hd hcd) fun σ H Q ⟨B, F, E, gd, rl, q⟩ => ⟨gd.tab, fun H1 eN T1 => ?_⟩⟩
  have e1 := ext_tabs gd eN T1
  refine ⟨B, F, E, e1.good, rl.ext e1, Tree.all_mono (fun ds k vs F2 H2 e2 p2 => ?_) (Tree.all_bind.mp q)⟩
  refine ⟨F2, ds, e2.good, p2, Tree.all_mono (fun o ko => ?_) (Tree.all_bind.mp k)⟩
  cases o with
  | some d => exact fun v F3 H3 e3 rv => (show ∀ v F' H', Ext F H F' H' → Rep X.K F' v d → Q v H' from ko) v F3 H3 ((e1.trans e2).trans e3) rv
  | none => exact fun F3 H3 e3 => ⟨true, eC, fun _ => (show ∀ v F' H', Ext F H F' H' → Rep X.K F' v (.str ret) → Q v H' from ko) _ F3 H3 ((e1.trans e2).trans e3) (.str ret), fun z => by cases z⟩
/-- the lambda's body: a call by place -/
theorem lam_call {j : Nat} {f : Str} {e : Expr} {es : List Expr} {cpos pf : Pos} (cx : CalX X.prog X.w X.K X.mg X.base j f (.ref CS) fx) (hj : j ≤ k) (hgf : scope.names.lookup f = some .globalImplicit)
    (ha : ∀ (A : Around) (outer : List Env) (s : Shared) (H : Hp) (E : XK) (fa c' : Addr), SA (lamCx X A outer s H E scope fa c') (e :: es) ma)
    (hdb : (f == ("__debug__" : Str)) = false := by decide) (he : ∀ env, starEach (e :: es) env = (false, eval e env) :: starEach es env := by intro; rfl) (hpl : ∀ env, (backTo cpos (starEach es env)).any (·.1) = false := by intro; rfl) :
    ∀ (A : Around) (outer : List Env) (s : Shared) (H : Hp) (E : XK) (fa c' : Addr), Room k (A.deeper (lamEnv X scope s.heap.objs.size fa c')) → PE (lamCx X A outer s H E scope fa c') (.Call (.Name f pf) (e :: es) [] cpos) (tCallS (spX X.K (.ref CS) fx) (fun _ => E) (tA X.K ma)) := by
  intro A outer s H E fa c' hr
  obtain ⟨g, fd, ps, F, hm, kp, b⟩ := cx.ex
  have tk : Takes (lamCx X A outer s H E scope fa c') (fun cls d _ H => E cls d H) := takes_of rfl rfl rfl rfl
  exact pe_callS (X := lamCx X A outer s H E scope fa c') (E := fun _ => E) F (hr.mono hj) hgf hm kp b (fun σ => L2.passAt tk σ) (ha A outer s H E fa c').pa hdb (he _) (hpl _)
/-- the lambda's body: a call by names -/
theorem lam_callK {j : Nat} {f : Str} {kws : List Keyword} {ks : List Str} {is : List Nat} {cpos pf : Pos} (cx : CalKX X.prog X.w X.K X.mg X.base j f (.ref CS) fx ks is) (hj : j ≤ k) (hgf : scope.names.lookup f = some .globalImplicit)
    (ha : ∀ (A : Around) (outer : List Env) (s : Shared) (H : Hp) (E : XK) (fa c' : Addr), SK_ (lamCx X A outer s H E scope fa c') kws ma)
    (hall : ∀ env, (backToKw cpos (keywordEach kws env)).all (·.1.isSome) = true := by intro; rfl) (hks : ∀ env, (backToKw cpos (keywordEach kws env)).filterMap (·.1) = ks := by intro; rfl) (hdb : (f == ("__debug__" : Str)) = false := by decide)
    (hpl : ∀ env, ((backTo cpos (starEach [] env)).any (·.1) || (backToKw cpos (keywordEach kws env)).any (·.1.isNone)) = false := by intro; rfl) :
    ∀ (A : Around) (outer : List Env) (s : Shared) (H : Hp) (E : XK) (fa c' : Addr), Room k (A.deeper (lamEnv X scope s.heap.objs.size fa c')) → PE (lamCx X A outer s H E scope fa c') (.Call (.Name f pf) [] kws cpos) (tCallS (spX X.K (.ref CS) fun ds => fx (permD is ds)) (fun _ => E) (tA X.K ma)) := by
  intro A outer s0 H0 E fa c' hr
  obtain ⟨g, fd, ps, F, hm, kp, b⟩ := cx.ex
  have tk : Takes (lamCx X A outer s0 H0 E scope fa c') (fun cls d _ H => E cls d H) := takes_of rfl rfl rfl rfl
  refine ⟨fun pins s σ H Q I h => ?_⟩
  refine wpAny_Call_Name_kw (ld_glob I hgf hm ?_ hdb)
  refine PySem.W.callWith_KW0 (h₀ := X.base) I.ok.mod.kin kp (hall _) (thn ((ha A outer s0 H0 E fa c').pk.run cpos pins s σ H _ I h) fun ws s2 ⟨zs, H2, I2, rz, q2⟩ => ⟨I2.kIn, ?_⟩) (hpl _)
  obtain ⟨F', ds, gd, r, q⟩ := q2
  have q3 : spX X.K (.ref CS) fx (is.filterMap fun i => zs[i]?) H2 Q E := ⟨F', permD is ds, gd, perm_rep r is, q⟩
  rw [hks _]
  have r2 := perm_vals rz is
  have hl := r2.length.symm.trans (F.len _ _ _ _ q3)
  refine wpAny_call (codeAny_mono ((F.mono hj).run (lamCx X A outer s0 H0 E scope fa c').A (lamCx X A outer s0 H0 E scope fa c').stack s2 H2 _ _ _ Q E hr I2.env0 (b.to s2 ws I2.kIn hl) r2 q3) fun r s' hq => ?_)
  cases r with
  | error e => exact L2.passAt tk σ pins H2 s2 e s' I2 hq
  | ok fl =>
    cases fl with
    | ret u => exact I2.after hq
    | next => exact False.elim hq
    | brk => exact False.elim hq
    | cont => exact False.elim hq
end
/-! ### an exception class of the program's own, over a built-in one -/
structure ExcF (K : PySem.W.Frag) (mg : Str → Option Value) (x : Str) (CS : Addr) (B nid iid : String) (bm : List Value) : Prop where
  base : ExcBaseFacts B nid iid bm
  inn : PySem.W.excIn K CS bm nid = true
  gC : mg x = some (.ref CS)
  kC : PySem.W.keepIn K (.ref CS) = true
  sub : PySem.W.subIn K (.ref CS) (.type "BaseException") = some true
  typ : PySem.W.typeIn K (.ref CS) = some (.type "type")
  ext : PySem.W.exmOne K (.ref CS) (.ref CS) = some true
theorem exc_of {K : PySem.W.Frag} {mg : Str → Option Value} {x : Str} {h : Heap} {CS : Addr} {B nid iid : String} {bm : List Value} (X : K.In h) (G : h.Ns mainGlobals mg) (b : ExcBaseFacts B nid iid bm) (a : PySem.W.nsIn K mainGlobals x = some (some (.ref CS))) (i : PySem.W.excIn K CS bm nid = true) (k : PySem.W.keepIn K (.ref CS) = true)
    (s : PySem.W.subIn K (.ref CS) (.type "BaseException") = some true) (t : PySem.W.typeIn K (.ref CS) = some (.type "type")) (e : PySem.W.exmOne K (.ref CS) (.ref CS) = some true) : ExcF K mg x CS B nid iid bm := ⟨b, i, PySem.W.mg_of X G a, k, s, t, e⟩
section
variable {P : Program} {w : World} {K : PySem.W.Frag} {mg : Str → Option Value} {base : Heap}
theorem calx_mk {x : Str} {st : Stmt} {C : Value} {fn : List D → Tree (Option D)} {k : Nat} {ps : List Str} (a : At K mg x st) (c : ∀ f fd, Fun K x x st f fd → FnOk P w K mg base (L2.CX P w) k f fd ps (spX K C fn))
    (hb : ∀ (kV doc pm : Value) (an : Option Addr) (cdv ct : Value) (us : List Value), us.length = ps.length → bindArgs (PySem.W.fnOf x x (defArgs st) (defBody st) (defScope st) .none kV doc pm an cdv ct) ⟨us, []⟩ = pure (ps.zip us)) : CalX P w K mg base k x C fn := by
  obtain ⟨f, fd, F, hm⟩ := a.ex
  exact ⟨f, fd, ps, c f fd F, hm, F.kp, F.binds hb⟩
theorem kwx_of {x : Str} {st : Stmt} {C : Value} {fn : List D → Tree (Option D)} {k : Nat} {ps ks : List Str} {is : List Nat} (a : At K mg x st) (c : ∀ f fd, Fun K x x st f fd → FnOk P w K mg base (L2.CX P w) k f fd ps (spX K C fn))
    (hb : ∀ (kV doc pm : Value) (an : Option Addr) (cdv ct : Value) (ws : List Value), (is.filterMap fun i => ws[i]?).length = ps.length → bindArgs (PySem.W.fnOf x x (defArgs st) (defBody st) (defScope st) .none kV doc pm an cdv ct) ⟨[], ks.zip ws⟩ = pure (ps.zip (is.filterMap fun i => ws[i]?))) :
    CalKX P w K mg base k x C fn ks is := by
  obtain ⟨f, fd, F, hm⟩ := a.ex
  have F0 := F
  obtain ⟨oc, od, kV, doc, pm, an, cdv, ct, osl, e, lk, hcd⟩ := F.ex
  refine ⟨f, fd, ps, c f fd F0, hm, F.kp, ⟨fun s ws _ hl => ?_⟩⟩
  rw [e]
  exact .of_eq (hb kV doc pm an cdv ct ws hl)
/-- a def whose code object is known -/
theorem calG_mkC {x : Str} {st : Stmt} {fn : List D → Tree D} {k : Nat} {ps : List Str} (a : At K mg x st) (c : ∀ f fd, Fun K x x st f fd → mg x = some (.ref f) → FnG P w K mg base k f fd ps (spF K fn))
    (hb : ∀ (kV doc pm : Value) (an : Option Addr) (cdv ct : Value) (us : List Value), us.length = ps.length → bindArgs (PySem.W.fnOf x x (defArgs st) (defBody st) (defScope st) .none kV doc pm an cdv ct) ⟨us, []⟩ = pure (ps.zip us)) : CalG P w K mg base k x fn := by
  obtain ⟨f, fd, F, hm⟩ := a.ex
  exact ⟨f, fd, ps, c f fd F hm, hm, F.kp, F.binds hb⟩
theorem code_of {x : Str} {st : Stmt} {f c P : Addr} {fd : FuncData} (KB : K.In base) (GB : base.Ns mainGlobals mg) (ht : PySem.W.tabIn K x = some (c, P)) (F : Fun K x x st f fd) (hm : mg x = some (.ref f)) : fd.code = .ref c := by
  obtain ⟨oc, od, kV, doc, pm, an, cdv, ct, osl, rfl, lk, _⟩ := F.ex
  exact PySem.W.law_code KB GB ht hm (KB _ _ lk) rfl
end
end R

set_option Elab.async false
set_option linter.all false
set_option maxRecDepth 100000
set_option maxHeartbeats 2000000
/-! defs as values -/
namespace R
open PySem PySem.Spec PyProof.Rows L2
open Tree (leaf fail)
/-- where the defs that are values stand -/
def Fns (mg : Str → Option Value) : Prop := ∀ n, n < FNS.length → mg (FNS.getD n (0, "")).2 = some (.ref (FNS.getD n (0, "")).1)
theorem fns_get {n : Nat} (h : n < FNS.length) : FNS[n]? = some ((FNS.getD n (0, "")).1, (FNS.getD n (0, "")).2) := by
  rw [List.getD_eq_getElem?_getD, List.getElem?_eq_getElem h]; rfl
theorem fns_of {n : Nat} {a : Addr} {x : Str} (h : FNS[n]? = some (a, x)) : n < FNS.length ∧ FNS.getD n (0, "") = (a, x) := by
  have hl : n < FNS.length := by
    rcases Nat.lt_or_ge n FNS.length with q | q
    · exact q
    · rw [List.getElem?_eq_none q] at h; cases h
  refine ⟨hl, ?_⟩
  rw [List.getD_eq_getElem?_getD, h]; rfl
theorem con_fn {K : PySem.W.Frag} {mg : Str → Option Value} (fns : Fns mg) (n : Nat) (h : n < FNS.length) : ConR K mg (FNS.getD n (0, "")).2 (.fn n) :=
  ⟨.ref _, .ref _, fns n h, rfl, fun _ => .fn (fns_get h)⟩
def mCallV (i : Nat) (disp : List (List D → Tree D)) (ma : En → Tree (List D)) : En → Tree D := fun E => match E[i]? with
  | some (some ⟨false, .fn n⟩) => mA (disp.getD n fun _ => fail) ma E
  | _ => fail
section
variable {X : Cx} {k i : Nat} {y : Str} {disp : List (List D → Tree D)} {p pos : Pos} {e : Expr} {es : List Expr} {ma : En → Tree (List D)}
theorem se_callV (hy : PE X (.Name y p) (tVar i)) (fns : Fns X.mg) (hc : ∀ n, n < FNS.length → ∃ j, j ≤ k ∧ CalG X.prog X.w X.K X.mg X.base j (FNS.getD n (0, "")).2 (disp.getD n fun _ => fail)) (hG : Gd X.A) (hr : Room k X.A)
    (ha : SA X (e :: es) ma)
    (he : starEach (e :: es) X.env = (false, eval e X.env) :: starEach es X.env := by rfl) (hpl : (backTo pos (starEach es X.env)).any (·.1) = false := by rfl) :
    SE X (.Call (.Name y p) (e :: es) [] pos) (mCallV i disp ma) := by
  refine ⟨PE.weak (t := fun σ H Q => ∃ n a x, FNS[n]? = some (a, x) ∧ σ[i]? = some (some (.ref a)) ∧ tA X.K ma σ H fun vs H1 => spF X.K (disp.getD n fun _ => fail) vs H1 Q E0) ⟨fun pins s σ H Q I h => ?_⟩ fun σ H Q ⟨B, F, E, g, rl, q⟩ => ?_⟩
  · obtain ⟨n, a, x, hn, hs, h⟩ := h
    obtain ⟨hl0, hq0⟩ := fns_of hn
    obtain ⟨j, hj, c⟩ := hc n hl0
    have hm0 := fns n hl0
    rw [hq0] at hm0 c
    obtain ⟨f, fd, ps, F, hm, kp, b⟩ := c.ex
    obtain rfl : a = f := by
      have := hm0.symm.trans hm
      cases this; rfl
    refine wpAny_Call_Name_kw (thn (hy.run pins s σ H (fun v H1 => v = .ref a ∧ H1 = H) I ⟨.ref a, hs, rfl, rfl⟩) fun u s1 ⟨v, H1, I1, r1, q1⟩ => ?_)
    obtain ⟨ev, eH⟩ := q1
    subst ev
    rw [eH] at I1
    obtain rfl : u = Value.ref a := r1
    refine PySem.W.callWith_K (h₀ := X.base) I1.ok.mod.kin kp (thn (ha.pa.run pos pins s1 σ H _ I1 h) fun us s2 ⟨vs, H2, I2, r, q⟩ => ⟨I2.kIn, ?_⟩) he hpl
    have hl := r.length.symm.trans (F.many _ _ _ _ q)
    have bd := b s2 us I2.kIn (by rw [List.append_nil]; exact hl)
    rw [List.append_nil] at bd
    refine wpAny_call (codeAny_mono (goG F hG (hr.mono hj) I2 bd r q) fun r s' hq => ?_)
    cases r with
    | error e => exact False.elim hq
    | ok fl =>
      cases fl with
      | ret u => exact hq
      | next => exact False.elim hq
      | brk => exact False.elim hq
      | cont => exact False.elim hq
  · unfold mCallV at q
    split at q
    · rename_i n e
      obtain ⟨v, h1, h2⟩ := rl.val i _ e
      cases h2 with
      | @fn a _ x hx =>
        exact ⟨n, a, x, hx, h1, B, F, E, g, rl, Tree.all_mono (fun ds k vs F1 H1 e1 p1 => ⟨F1, ds, e1.good, p1, Tree.all_mono (fun z kz w F2 H2 e2 rz => kz w F2 H2 (e1.trans e2) rz) k⟩) (Tree.all_bind.mp q)⟩
    · exact q.elim
end
section
variable {P : Program} {w : World} {K : PySem.W.Frag} {mg : Str → Option Value} {base : Heap}
/-- the recursion's ground: never reached -/
theorem calG_fail {x : Str} {st : Stmt} {k : Nat} {ps : List Str} (a : At K mg x st)
    (hb : ∀ (kV doc pm : Value) (an : Option Addr) (cdv ct : Value) (us : List Value), us.length = ps.length → bindArgs (PySem.W.fnOf x x (defArgs st) (defBody st) (defScope st) .none kV doc pm an cdv ct) ⟨us, []⟩ = pure (ps.zip us)) : CalG P w K mg base k x (fun _ => fail) := by
  obtain ⟨f, fd, F, hm⟩ := a.ex
  refine ⟨f, fd, ps, ⟨fun vs H Q E h => ?_, fun A over s H args us vs Q E hG hr e0 bd r h => ?_⟩, hm, F.kp, F.binds hb⟩
  · obtain ⟨_, _, _, _, q⟩ := h
    exact q.elim
  · obtain ⟨_, _, _, _, q⟩ := h
    exact q.elim
end
end R

set_option Elab.async false
set_option linter.all false
set_option maxRecDepth 100000
set_option maxHeartbeats 2000000
/-! lists: extend, sorted (ints), pop of an own list -/
namespace R
open PySem PySem.Spec PyProof.Rows L2
open Tree (leaf fail)
section
variable {X : Cx} {x : Str} {p pos : Pos} {e : Expr} {m : En → Tree D}
/-- x.extend(e), x an own list, e a list -/
def oExt (i : Nat) (mv : En → Tree D) : En → Tree Out := fun E => mOwn i E fun _ => (mv E).bind fun v => mOwn i E fun ds => match v with
  | .lst es => if ds.length + es.length ≤ sizeLine then leaf (.nx (E.putOwn i (.lst (ds ++ es)))) else fail
  | _ => fail
theorem s_ext {i : Nat} {px apos cpos : Pos} {mv : En → Tree D} (hv : PE X (.Name x px) (tVar i)) (he : SP X e mv)
    (hb : attributeBase (.Name x px) "extend" X.env (eval (.Name x px) X.env) = eval (.Name x px) X.env := by rfl) (hl : (apos.endLine == cpos.line) = true := by rfl)
    (hfew : ((backTo cpos (starEach [e] X.env)).all (fun x => !x.1) && (backToKw cpos (keywordEach [] X.env)).all (fun x => x.1.isSome) && decide (([e] : List Expr).length + ([] : List Keyword).length + (if ([] : List Keyword).isEmpty then 0 else 1) < 30)) = true := by rfl)
    (hs : starEach [e] X.env = (false, eval e X.env) :: starEach [] X.env := by rfl) (hw : swapsWith (.Call (.Attribute (.Name x px) "extend" apos) [e] [] cpos) none pos.line X.env = pure false := by rfl) :
    SS X (.Expr (.Call (.Attribute (.Name x px) "extend" apos) [e] [] cpos) pos) (oExt i mv) := by
  refine ⟨PS.weak (ps_expr (pe_bm PySem.F.plainAttrs_list PySem.F.slot_list_extend PySem.F.type_list_extend mt_extend hv (pa_cons he.pe pa_nil hs) hb hfew hl hs (by rfl)) hw) fun D0 σ H ⟨F0, H0, F, E, ex, r, q⟩ => ?_⟩
  obtain ⟨ds0, o0, q⟩ := mOwn_all q
  obtain ⟨a, xs, _, g1, _, g3, _, _⟩ := r.own i _ o0
  refine ⟨.ref a, g1, .inl ⟨rfl, xs, .of g3⟩, B0 H0, F, E, ex.good, r, Tree.all_mono (fun d k v F1 H1 e1 p1 => ?_) (Tree.all_bind.mp q)⟩
  obtain ⟨ds, o1, k⟩ := mOwn_all k
  have r1 := r.ext e1
  obtain ⟨a', xs', ds', z1, zeq, z2, z3, _⟩ := r1.own i _ o1
  cases zeq
  rw [g1] at z1; cases z1
  cases d with
  | lst es =>
    have k : (if ds.length + es.length ≤ sizeLine then leaf (.nx (E.putOwn i (.lst (ds ++ es)))) else fail : Tree Out).all (Post X.K F0 H0 F D0) := k
    split at k
    · rename_i hlen
      obtain ⟨b, zs, rfl, hb', rz⟩ := p1.lst e1.good
      obtain ⟨a2, xs2, y1, y2, y3, y4, y5⟩ := own_put (ex.trans e1) r1 o1 (z3.append rz)
      rw [g1] at y1; cases y1
      rw [z2] at y2; cases y2
      exact ⟨a, b, xs', zs, rfl, rfl, z2, hb', by rw [z3.length, rz.length]; exact hlen, k σ F1 _ y4 e1.le y5⟩
    · exact k.elim
  | _ => exact False.elim k
/-! ### sorted: ints -/
def insI (i : Int) : List Int → List Int
  | [] => [i]
  | j :: js => if i ≤ j then i :: j :: js else j :: insI i js
def sortI : List Int → List Int
  | [] => []
  | i :: is => insI i (sortI is)
theorem insI_perm (i : Int) : ∀ js : List Int, (insI i js).Perm (i :: js)
  | [] => .refl _
  | j :: js => by
    unfold insI
    split
    · exact .refl _
    · exact ((insI_perm i js).cons j).trans (.swap i j js)
theorem sortI_perm : ∀ is : List Int, (sortI is).Perm is
  | [] => .refl _
  | i :: is => (insI_perm i _).trans ((sortI_perm is).cons i)
theorem insI_sorted (i : Int) : ∀ js : List Int, js.Pairwise (· ≤ ·) → (insI i js).Pairwise (· ≤ ·)
  | [], _ => by unfold insI; simp
  | j :: js, h => by
    unfold insI
    rw [List.pairwise_cons] at h
    split
    · rename_i hij
      rw [List.pairwise_cons, List.pairwise_cons]
      refine ⟨fun k hk => ?_, h⟩
      rcases List.mem_cons.mp hk with e | e
      · omega
      · have := h.1 k e; omega
    · rename_i hij
      rw [List.pairwise_cons]
      refine ⟨fun k hk => ?_, insI_sorted i js h.2⟩
      rcases List.mem_cons.mp ((insI_perm i js).mem_iff.mp hk) with e | e
      · omega
      · exact h.1 k e
theorem sortI_sorted : ∀ is : List Int, (sortI is).Pairwise (· ≤ ·)
  | [] => .nil
  | i :: is => insI_sorted i _ (sortI_sorted is)
theorem sorted_uniq : ∀ {xs ys : List Int}, xs.Perm ys → xs.Pairwise (· ≤ ·) → ys.Pairwise (· ≤ ·) → xs = ys
  | [], ys, h, _, _ => (List.nil_perm.mp h).symm
  | x :: xs, ys, h, hx, hy => by
    cases ys with
    | nil => exact absurd h.length_eq (by simp)
    | cons y ys =>
      rw [List.pairwise_cons] at hx hy
      have e : x = y := by
        have h1 := h.mem_iff.mp (List.mem_cons_self (a := x) (l := xs))
        have h2 := h.mem_iff.mpr (List.mem_cons_self (a := y) (l := ys))
        rcases List.mem_cons.mp h1 with e | e
        · exact e
        · rcases List.mem_cons.mp h2 with e2 | e2
          · exact e2.symm
          · have := hx.1 y e2
            have := hy.1 x e
            omega
      subst e
      rw [sorted_uniq (h.cons_inv) hx.2 hy.2]
def mSorted (m : En → Tree D) : En → Tree (List D) := fun E => (m E).bind fun d => match d with
  | .lst ds => match intsD ds with
    | some is => leaf ((sortI is).map D.int)
    | none => fail
  | _ => fail
theorem repsInts {K : PySem.W.Frag} {F : Fz} : ∀ is : List Int, Reps K F (is.map V.int) (is.map D.int)
  | [] => .nil
  | i :: is => .cons (.int i) (repsInts is)
theorem sl_sorted (hg : Gl X "sorted") (hm : X.mg "sorted" = none) (ha : SP X e m) (he : starEach (e :: []) X.env = (false, eval e X.env) :: starEach [] X.env := by rfl) : SL X (.Call (.Name "sorted" p) [e] [] pos) (mSorted m) := by
  refine ⟨PE.weak (pe_callB cr_sortedI hg hm (by decide +kernel) (pa_cons ha.pe pa_nil he) (by decide) (by decide) he (by rfl)) fun σ H Q ⟨B, F, E, g, rl, q⟩ => ?_⟩
  refine ⟨B, F, E, g, rl, Tree.all_mono (fun d k v F1 H1 e1 p1 => ?_) (Tree.all_bind.mp q)⟩
  cases d with
  | lst ds =>
    cases hi : intsD ds with
    | none =>
      have k : ((match intsD ds with | some is => leaf ((sortI is).map D.int) | none => fail) : Tree (List D)).all _ := k
      rw [hi] at k
      exact k.elim
    | some is =>
      have k : ((match intsD ds with | some is => leaf ((sortI is).map D.int) | none => fail) : Tree (List D)).all _ := k
      rw [hi] at k
      obtain ⟨a, xs, rfl, h1, r1⟩ := p1.lst e1.good
      have ex := ints_of hi r1
      subst ex
      refine ⟨a, is, rfl, .of h1, fun ns' l hp hs hl => ?_⟩
      have en : ns' = sortI is := sorted_uniq (hp.trans (sortI_perm is).symm) hs (sortI_sorted is)
      subst en
      have f := e1.good.free hl
      exact k l _ F1 _ (e1.trans (Ext.new e1.good hl)) upd_same f.1 f.2 (ext_none g e1 hl) (repsInts _)
  | _ => exact False.elim k
/-! ### x.append(y.pop(e)), x and y own lists -/
def oAppPop (i j : Nat) (mv : En → Tree D) : En → Tree Out := fun E => mOwn i E fun _ => mOwn j E fun _ => (mv E).bind fun d => match d with
  | .int k => mOwn j E fun es => if -(2 ^ 63) ≤ k ∧ k < 2 ^ 63 then match seqIndex? k es.length with
    | some n => match es[n]? with
      | some y => mOwn i (E.putOwn j (.lst (es.eraseIdx n))) fun ds => if ds.length < sizeLine then leaf (.nx ((E.putOwn j (.lst (es.eraseIdx n))).putOwn i (.lst (ds ++ [y])))) else fail
      | none => fail
    | none => fail
    else fail
  | _ => fail
theorem s_appPop {i j : Nat} {y : Str} {px apos cpos qx bpos dpos : Pos} {mv : En → Tree D} (hv : PE X (.Name x px) (tVar i)) (hy : PE X (.Name y qx) (tVar j)) (he : SP X e mv)
    (hb : attributeBase (.Name x px) "append" X.env (eval (.Name x px) X.env) = eval (.Name x px) X.env := by rfl) (hl : (apos.endLine == cpos.line) = true := by rfl)
    (hfew : ((backTo cpos (starEach [.Call (.Attribute (.Name y qx) "pop" bpos) [e] [] dpos] X.env)).all (fun x => !x.1) && (backToKw cpos (keywordEach [] X.env)).all (fun x => x.1.isSome) && decide (([.Call (.Attribute (.Name y qx) "pop" bpos) [e] [] dpos] : List Expr).length + ([] : List Keyword).length + (if ([] : List Keyword).isEmpty then 0 else 1) < 30)) = true := by rfl)
    (hs : starEach [.Call (.Attribute (.Name y qx) "pop" bpos) [e] [] dpos] X.env = (false, eval (.Call (.Attribute (.Name y qx) "pop" bpos) [e] [] dpos) X.env) :: starEach [] X.env := by rfl)
    (hb2 : attributeBase (.Name y qx) "pop" X.env (eval (.Name y qx) X.env) = eval (.Name y qx) X.env := by rfl) (hl2 : (bpos.endLine == dpos.line) = true := by rfl)
    (hfew2 : ((backTo dpos (starEach [e] X.env)).all (fun x => !x.1) && (backToKw dpos (keywordEach [] X.env)).all (fun x => x.1.isSome) && decide (([e] : List Expr).length + ([] : List Keyword).length + (if ([] : List Keyword).isEmpty then 0 else 1) < 30)) = true := by rfl)
    (hs2 : starEach [e] X.env = (false, eval e X.env) :: starEach [] X.env := by rfl)
    (hw : swapsWith (.Call (.Attribute (.Name x px) "append" apos) [.Call (.Attribute (.Name y qx) "pop" bpos) [e] [] dpos] [] cpos) none pos.line X.env = pure false := by rfl) :
    SS X (.Expr (.Call (.Attribute (.Name x px) "append" apos) [.Call (.Attribute (.Name y qx) "pop" bpos) [e] [] dpos] [] cpos) pos) (oAppPop i j mv) := by
  refine ⟨PS.weak (ps_expr (pe_bm PySem.F.plainAttrs_list PySem.F.slot_list_append PySem.F.type_list_append mt_append hv (pa_cons (pe_bm PySem.F.plainAttrs_list PySem.F.slot_list_pop PySem.F.type_list_pop mt_popAt hy (pa_cons he.pe pa_nil hs2) hb2 hfew2 hl2 hs2 (by rfl)) pa_nil hs) hb hfew hl hs (by rfl)) hw) fun D0 σ H ⟨F0, H0, F, E, ex, r, q⟩ => ?_⟩
  obtain ⟨ds0, o0, q⟩ := mOwn_all q
  obtain ⟨es0, p0, q⟩ := mOwn_all q
  obtain ⟨a, xs, _, g1, _, g3, _, _⟩ := r.own i _ o0
  obtain ⟨b, ys, _, h1, _, h3, _, _⟩ := r.own j _ p0
  refine ⟨.ref a, g1, .inl ⟨rfl, xs, .of g3⟩, .ref b, h1, .inl ⟨rfl, ys, .of h3⟩, B0 H0, F, E, ex.good, r, Tree.all_mono (fun d k v F1 H1 e1 p1 => ?_) (Tree.all_bind.mp q)⟩
  cases d with
  | int kk =>
    have k : (mOwn j E fun es => if -(2 ^ 63) ≤ kk ∧ kk < 2 ^ 63 then match seqIndex? kk es.length with
      | some n => match es[n]? with
        | some y => mOwn i (E.putOwn j (.lst (es.eraseIdx n))) fun ds => if ds.length < sizeLine then leaf (.nx ((E.putOwn j (.lst (es.eraseIdx n))).putOwn i (.lst (ds ++ [y])))) else fail
        | none => fail
      | none => fail
      else fail).all (Post X.K F0 H0 F D0) := k
    obtain ⟨es, o1, k⟩ := mOwn_all k
    have r1 := r.ext e1
    obtain ⟨b', ys', es', z1, zeq, z2, z3, _⟩ := r1.own j _ o1
    cases zeq
    rw [h1] at z1; cases z1
    split at k
    · rename_i hk
      cases hn : seqIndex? kk es.length with
      | none => rw [hn] at k; exact k.elim
      | some n =>
        rw [hn] at k
        have k : (match es[n]? with
          | some y => mOwn i (E.putOwn j (.lst (es.eraseIdx n))) fun ds => if ds.length < sizeLine then leaf (.nx ((E.putOwn j (.lst (es.eraseIdx n))).putOwn i (.lst (ds ++ [y])))) else fail
          | none => fail : Tree Out).all (Post X.K F0 H0 F D0) := k
        cases hy' : es[n]? with
        | none => rw [hy'] at k; exact k.elim
        | some dy =>
          rw [hy'] at k
          have k : (mOwn i (E.putOwn j (.lst (es.eraseIdx n))) fun ds => if ds.length < sizeLine then leaf (.nx ((E.putOwn j (.lst (es.eraseIdx n))).putOwn i (.lst (ds ++ [dy])))) else fail).all (Post X.K F0 H0 F D0) := k
          obtain ⟨vy, hvy, rvy⟩ := z3.get' hy'
          obtain ⟨b2, ys2, y1, y2, y3, y4, y5⟩ := own_put (ex.trans e1) r1 o1 (z3.eraseIdx n)
          rw [h1] at y1; cases y1
          rw [z2] at y2; cases y2
          cases p1.int
          refine ⟨b, ys', kk, n, vy, rfl, rfl, z2, hk.1, hk.2, by rw [z3.length]; exact hn, hvy, ?_⟩
          obtain ⟨ds, o2, k⟩ := mOwn_all k
          split at k
          · rename_i hlen
            obtain ⟨a', xs', ds', w1, weq, w2, w3, _⟩ := y5.own i _ o2
            cases weq
            rw [g1] at w1; cases w1
            obtain ⟨a2, xs2, u1, u2, u3, u4, u5⟩ := own_put y4 y5 o2 (w3.append (.cons rvy .nil))
            rw [g1] at u1; cases u1
            rw [w2] at u2; cases u2
            exact ⟨a, xs', vy, rfl, rfl, w2, by rw [w3.length]; exact hlen, k σ F1 _ u4 e1.le u5⟩
          · exact k.elim
    · exact k.elim
  | _ => exact False.elim k
end
end R

set_option Elab.async false
set_option linter.all false
set_option maxRecDepth 100000
set_option maxHeartbeats 2000000
/-! values that are new: defs that tell a new list; a told list is changed and forgotten -/
namespace R
open PySem PySem.Spec PyProof.Rows L2
open Tree (leaf fail)
/-- made behind H: the list (n = 0), its rows, too (n = 1) -/
def NewV (H : Hp) (v : V) : Prop := ∃ a, v = .ref a ∧ NT H a
def NewD (n : Nat) (H : Hp) (F : Fz) (v : V) : Prop := ∃ a, v = .ref a ∧ NT H a ∧ (n = 0 ∨ ∃ xs, F.P a = some (.lst xs) ∧ ∀ x ∈ xs, NewV H x)
theorem newV_back {F0 F : Fz} {H0 H : Hp} (e : Ext F0 H0 F H) {v : V} (h : NewV H v) : NewV H0 v := by
  obtain ⟨a, rfl, hn⟩ := h
  refine ⟨a, rfl, e.back hn fun t => ?_⟩
  obtain ⟨x, y, e1, _⟩ := (e.good.pot a (e.monoT a t)).2
  obtain ⟨ps, z⟩ := hn _ e1
  cases z
theorem newD_back {n : Nat} {F0 F F' : Fz} {H0 H : Hp} (e : Ext F0 H0 F H) {v : V} (h : NewD n H F' v) : NewD n H0 F' v := by
  obtain ⟨a, rfl, hn, h⟩ := h
  obtain ⟨a', ea, hn'⟩ := newV_back e (v := .ref a) ⟨a, rfl, hn⟩
  cases ea
  refine ⟨a, rfl, hn', h.imp id fun ⟨xs, h1, h2⟩ => ⟨xs, h1, fun x hx => newV_back e (h2 x hx)⟩⟩
def tEN (K : PySem.W.Frag) (n : Nat) (m : En → Tree D) : TE := fun σ H Q => ∃ B F E, Good F H ∧ RelE K B F H σ E ∧ (m E).all fun d => ∀ v F' H', Ext F H F' H' → Rep K F' v d → NewD n H F' v → Q v H'
structure SEN (X : Cx) (n : Nat) (e : Expr) (m : En → Tree D) : Prop where
  pe : PE X e (tEN X.K n m)
theorem SL.sen {X : Cx} {e : Expr} {m : En → Tree (List D)} (h : SL X e m) : SEN X 0 e (mList m) := ⟨PE.weak h.pe fun σ H Q ⟨B, F, E, g, r, q⟩ => ⟨B, F, E, g, r, Tree.all_mono (fun ds k a xs F' H' e h' n t h0 rp =>
  k (.ref a) (F'.add a (.lst xs)) H' (e.freeze h' n t h0) (.lst upd_same (rp.mono (Fz.le_add n))) ⟨a, rfl, h0, .inl rfl⟩) (Tree.all_bind.mp q)⟩⟩
/-- what has come since is let go -/
theorem Ext.roll {F0 F F2 : Fz} {H0 H H2 : Hp} (a : Ext F0 H0 F H) (b : Ext F H F2 H2) : Ext F0 H0 F H2 where
  good := by
    refine ⟨fun c o h => b.good.sub c o (b.mono c o h), fun c t => ?_, a.good.nt, b.good.tab⟩
    have := b.good.pot c (b.monoT c t)
    refine ⟨?_, this.2⟩
    rcases hq : F.P c with _ | o
    · rfl
    · have h := this.1
      rw [b.mono c o hq] at h
      cases h
  mono := a.mono
  monoT := a.monoT
  keep := (a.trans b).keep
  fresh := a.fresh
/-- a def's promise: its list is new -/
def spN (K : PySem.W.Frag) (n : Nat) (f : List D → Tree D) : Sp := fun vs H Q _ => ∃ F ds, Good F H ∧ Reps K F vs ds ∧ (f ds).all fun d => ∀ v F' H', Ext F H F' H' → Rep K F' v d → NewD n H F' v → Q v H'
theorem newV_none {F : Fz} {H : Hp} {a : Addr} {o : HO} (g : Good F H) (n : NT H a) (h : F.P a = some o) : False := by
  obtain ⟨ps, e⟩ := n o (g.sub a o h)
  exact g.nt a ps (by rw [h, e])
theorem newV_pot {F : Fz} {H : Hp} {a : Addr} (g : Good F H) (n : NT H a) : ¬ F.T a := fun t => by
  obtain ⟨x, y, e, _⟩ := (g.pot a t).2
  obtain ⟨ps, z⟩ := n _ e
  cases z
/-! ### blocks that end by telling a new list -/
def PostN (K : PySem.W.Frag) (n : Nat) (F0 : Fz) (H0 : Hp) (F : Fz) (D0 : Ends) : Out → Prop
  | .nx E => PostE K F0 H0 F D0.nx E
  | .rt d => ∀ v F' H', Ext F0 H0 F' H' → F.Le F' → Rep K F' v d → NewD n H0 F' v → D0.rt v H'
  | _ => False
theorem PostN.le {K : PySem.W.Frag} {n : Nat} {F0 F F1 : Fz} {H0 : Hp} {D0 : Ends} {o : Out} (l : F.Le F1) (h : PostN K n F0 H0 F D0 o) : PostN K n F0 H0 F1 D0 o := by
  cases o with
  | nx E => exact fun σ' F' H' e l' r => h σ' F' H' e (l.trans l') r
  | rt d => exact fun v F' H' e l' r => h v F' H' e (l.trans l') r
  | bk E => exact h
  | ct E => exact h
def tSN (K : PySem.W.Frag) (n : Nat) (m : En → Tree Out) : TS := fun D0 σ H => ∃ F0 H0 F E, Ext F0 H0 F H ∧ RelE K (B0 H0) F H σ E ∧ (m E).all (PostN K n F0 H0 F D0)
structure SSN (X : Cx) (n : Nat) (ss : List Stmt) (m : En → Tree Out) : Prop where
  ps : PSs X ss (tSN X.K n m)
section
variable {X : Cx} {n : Nat} {st : Stmt} {rest : List Stmt} {m m' : En → Tree Out} {pos : Pos} {e : Expr}
theorem ssn_ret {me : En → Tree D} (h : SEN X n e me) : SSN X n [.Return (some e) pos] (oRet me) := ⟨PSs.weak (pss_one (ps_ret h.pe)) fun D0 σ H ⟨F0, H0, F, E, ex, r, q⟩ =>
  ⟨B0 H0, F, E, ex.good, r, Tree.all_mono (fun d k v F' H' e' p nv => by
    exact (show PostN X.K n F0 H0 F D0 (.rt d) from k) _ F' H' (ex.trans e') e'.le p (newD_back ex nv)) (Tree.all_bind.mp q)⟩⟩
/-- a statement that does not tell, then the rest -/
def oSeqN (m n : En → Tree Out) : En → Tree Out := fun E => (m E).bind fun o => match o with
  | .nx E' => n E'
  | _ => fail
theorem ssn_cons (h1 : SS X st m) (h2 : SSN X n rest m') : SSN X n (st :: rest) (oSeqN m m') := by
  refine ⟨PSs.weak (pss_cons h1.ps h2.ps) fun D0 σ H ⟨F0, H0, F, E, e, r, q⟩ => ?_⟩
  refine ⟨F0, H0, F, E, e, r, Tree.all_mono (fun o k => ?_) (Tree.all_bind.mp q)⟩
  cases o with
  | nx E' => exact fun σ' F' H' e' l r' => ⟨F0, H0, F', E', e', r', Tree.all_mono (fun o h => PostN.le l h) k⟩
  | rt d => exact False.elim k
  | bk E' => exact False.elim k
  | ct E' => exact False.elim k
end
def mDefN (np n : Nat) (m : En → Tree Out) : List D → Tree D := fun ds => if ds.length = np then (m (En.start n ds)).bind fun o => match o with
  | .rt d => leaf d
  | _ => fail
  else fail
section
variable {P : Program} {w : World} {K : PySem.W.Frag} {mg : Str → Option Value} {base : Heap}
theorem spN_len {z np n : Nat} {m : En → Tree Out} {vs : List V} {H : Hp} {Q : VK} {E : XK} (h : spN K z (mDefN np n m) vs H Q E) : vs.length = np := by
  obtain ⟨F, ds, g, r, q⟩ := h
  unfold mDefN at q
  split at q
  · rename_i hl; rw [r.length]; exact hl
  · exact q.elim
theorem def_okN {x qual : Str} {st : Stmt} {f : Addr} {fd : FuncData} {N ps : List Str} {k z : Nat} {m : En → Tree Out} (np n : Nat) (F : Fun K x qual st f fd) (S : FnScope N ps (defScope st)) (hn : N.length = n) (hp : ps.length = np)
    (hbody : ∀ (cdv : Value) (A : Around) (outer : List Env) (s : Shared) (H : Hp) (E : XK), fd.code = cdv → Gd A → Room k (A.deeper (envOfC qual (defScope st) s.heap.objs.size f cdv)) →
      SSN (cxOf CX0 P w K mg base N qual (defScope st) f cdv A outer s H E).nox z (defBody st) m) : FnG P w K mg base (k + 1) f fd ps (spN K z (mDefN np n m)) := by
  subst hn hp
  refine fnG_body F S (fun vs H Q E h => spN_len h) (fun cdv A outer s H vs Q E hcv hG hr h => ?_)
  obtain ⟨F, ds, g, r, q⟩ := h
  refine ⟨_, (hbody cdv A outer s H E hcv hG hr).ps, F, H, F, En.start N.length ds, Ext.refl g, rel_start r N, ?_⟩
  unfold mDefN at q
  split at q
  · refine Tree.all_mono (fun o k => ?_) (Tree.all_bind.mp q)
    cases o with
    | nx E => exact False.elim k
    | rt d => exact fun v F' H' e l r nv => k v F' H' e r nv
    | bk E => exact False.elim k
    | ct E => exact False.elim k
  · exact q.elim
/-- the promise without newness -/
theorem FnG.ofN {k z : Nat} {f : Addr} {fd : FuncData} {ps : List Str} {fn : List D → Tree D} (F : FnG P w K mg base k f fd ps (spN K z fn)) : FnG P w K mg base k f fd ps (spF K fn) :=
  ⟨fun vs H Q E ⟨F', ds, g, r, q⟩ => F.many vs H Q E ⟨F', ds, g, r, Tree.all_mono (fun d k v F2 H2 e rv _ => k v F2 H2 e rv) q⟩,
   fun A over s H args us vs Q E hG hr e0 bd r ⟨F', ds, g, rr, q⟩ => F.goes A over s H args us vs Q E hG hr e0 bd r ⟨F', ds, g, rr, Tree.all_mono (fun d k v F2 H2 e rv _ => k v F2 H2 e rv) q⟩⟩
structure CalN (P : Program) (w : World) (K : PySem.W.Frag) (mg : Str → Option Value) (base : Heap) (k z : Nat) (x : Str) (fn : List D → Tree D) : Prop where
  ex : ∃ (f : Addr) (fd : FuncData) (ps : List Str), FnG P w K mg base k f fd ps (spN K z fn) ∧ mg x = some (.ref f) ∧ PySem.W.keepIn K (.ref f) = true ∧ Binds K fd ps []
end
section
variable {X : Cx} {k j z : Nat} {x : Str} {fn : List D → Tree D} {p pos : Pos} {e : Expr} {es : List Expr} {ma : En → Tree (List D)}
theorem sen_call (c : CalN X.prog X.w X.K X.mg X.base k z x fn) (hG : Gd X.A) (hr : Room j X.A) (hk : k ≤ j) (hg : Gl X x) (ha : SA X (e :: es) ma) (hdb : (x == ("__debug__" : Str)) = false := by decide)
    (he : starEach (e :: es) X.env = (false, eval e X.env) :: starEach es X.env := by rfl) (hpl : (backTo pos (starEach es X.env)).any (·.1) = false := by rfl) : SEN X z (.Call (.Name x p) (e :: es) [] pos) (mA fn ma) := by
  obtain ⟨f, fd, ps, F, hm, kp, hb⟩ := c.ex
  refine ⟨PE.weak (t := fun σ H Q => tA X.K ma σ H fun vs H1 => spN X.K z fn vs H1 Q E0) ⟨fun pins s σ H Q I h => ?_⟩ fun σ H Q ⟨B, F, E, g, rl, q⟩ => ?_⟩
  · refine wpAny_Call_Name_kw (ld_glob I hg hm ?_ hdb)
    refine PySem.W.callWith_K (h₀ := X.base) I.ok.mod.kin kp (thn (ha.pa.run pos pins s σ H _ I h) fun us s1 ⟨vs, H1, I1, r, q⟩ => ⟨I1.kIn, ?_⟩) he hpl
    have hl := r.length.symm.trans (F.many _ _ _ _ q)
    have bd := hb s1 us I1.kIn (by rw [List.append_nil]; exact hl)
    rw [List.append_nil] at bd
    refine wpAny_call (codeAny_mono (goG F hG (hr.mono hk) I1 bd r q) fun r s' hq => ?_)
    cases r with
    | error e => exact False.elim hq
    | ok fl =>
      cases fl with
      | ret u => exact hq
      | next => exact False.elim hq
      | brk => exact False.elim hq
      | cont => exact False.elim hq
  · exact ⟨B, F, E, g, rl, Tree.all_mono (fun ds k vs F1 H1 e1 p1 => ⟨F1, ds, e1.good, p1, Tree.all_mono (fun z kz w F2 H2 e2 rz nv => by
      exact kz _ F2 H2 (e1.trans e2) rz (newD_back e1 nv)) k⟩) (Tree.all_bind.mp q)⟩
/-- told = e; if c: return False; told.append(None); the rest -/
def oTold (i : Nat) (me : En → Tree D) (mt : En → Tree Bool) (mr : En → Tree Out) : En → Tree Out := fun E => (me E).bind fun d => match d with
  | .lst ds => if ds.length < sizeLine ∧ i < E.length then (mt (E.put i (.lst ds))).bind fun c => if c = true then leaf (.rt (.bl false)) else mr (E.set i none) else fail
  | _ => fail
theorem s_told {i : Nat} {rest : List Stmt} {c : Expr} {me : En → Tree D} {mt : En → Tree Bool} {mr : En → Tree Out} {p1 p2 p4 p5 p6 p7 p9 p10 : Pos} {r1 c1 : Expr} (hN : X.N.Nodup) (hi : X.N[i]? = some x) (hx : Loc X.env.scope x) (hf : X.fn x = true ∨ X.env.scope.names.lookup x = some .local)
    (he : SEN X 0 e me) (hv : PE X (.Name x p6) (tVar i)) (ht : ST X c mt) (hr1 : PE X r1 (tC (.bl false))) (hc1 : PE X c1 (tC .non)) (hrest : SSs X rest mr)
    (hs0 : swapsWith e (some (.Name x p1)) p2.line X.env = pure false := by rfl)
    (hb : attributeBase (.Name x p6) "append" X.env (eval (.Name x p6) X.env) = eval (.Name x p6) X.env := by rfl) (hl : (p7.endLine == p9.line) = true := by rfl)
    (hfew : ((backTo p9 (starEach [c1] X.env)).all (fun x => !x.1) && (backToKw p9 (keywordEach [] X.env)).all (fun x => x.1.isSome) && decide (([c1] : List Expr).length + ([] : List Keyword).length + (if ([] : List Keyword).isEmpty then 0 else 1) < 30)) = true := by rfl)
    (hs : starEach [c1] X.env = (false, eval c1 X.env) :: starEach [] X.env := by rfl) (hw : swapsWith (.Call (.Attribute (.Name x p6) "append" p7) [c1] [] p9) none p10.line X.env = pure false := by rfl) :
    SSs X (.Assign [.Name x p1] e p2 :: .If c [.Return (some r1) p4] [] p5 :: .Expr (.Call (.Attribute (.Name x p6) "append" p7) [c1] [] p9) p10 :: rest) (oTold i me mt mr) := by
  refine ⟨PSs.weak (pss_cons (ps_set hN hi hx he.pe hs0 hf) (pss_cons (ps_if ht.pt (pss_one (ps_ret hr1)) pss_nil) (pss_cons (ps_expr (pe_bm PySem.F.plainAttrs_list PySem.F.slot_list_append PySem.F.type_list_append mt_append hv (pa_cons hc1 pa_nil hs) hb hfew hl hs (by rfl)) hw) hrest.ps))) fun D0 σ H ⟨F0, H0, F, E, ex, r, q⟩ => ?_⟩
  refine ⟨B0 H0, F, E, ex.good, r, Tree.all_mono (fun d k v F1 H1 e1 rv nv => ?_) (Tree.all_bind.mp q)⟩
  cases d with
  | lst ds =>
    have k : (if ds.length < sizeLine ∧ i < E.length then (mt (E.put i (.lst ds))).bind fun c => if c = true then leaf (.rt (.bl false)) else mr (E.set i none) else fail : Tree Out).all (Post X.K F0 H0 F D0) := k
    split at k
    · rename_i hlen
      obtain ⟨hlen, hil⟩ := hlen
      obtain ⟨a, rfl, hn, _⟩ := nv
      cases rv with
      | @lst _ xs _ hP rs =>
        have r1' := (r.ext e1).put i (Rep.lst hP rs)
        refine ⟨B0 H0, F1, E.put i (.lst ds), e1.good, r1', Tree.all_mono (fun b kb F2 H2 e2 => ?_) (Tree.all_bind.mp k)⟩
        cases b with
        | true =>
          have kb : Post X.K F0 H0 F D0 (.rt (.bl false)) := kb
          exact kb (.bl false) F2 H2 ((ex.trans e1).trans e2) (e1.le.trans e2.le) (.bl false)
        | false =>
          have kb : (mr (E.set i none)).all (Post X.K F0 H0 F D0) := kb
          have hH2 : H2 a = some (.lst xs) := e2.good.sub a _ (e2.mono a _ hP)
          have np : F.P a = none := by
            rcases hq : F.P a with _ | o
            · rfl
            · exact (newV_none ex.good hn hq).elim
          have nt := newV_pot ex.good hn
          have h0 : NT H0 a := ex.back hn fun t => nt (ex.monoT a t)
          have ex2 : Ext F0 H0 F H2 := ex.roll (e1.trans e2)
          have ex3 : Ext F0 H0 F (upd H2 a (.lst (xs ++ [.non]))) := ex2.write np nt h0 ⟨xs, hH2⟩
          refine ⟨.ref a, ?_, .inl ⟨rfl, xs, .of hH2⟩, a, xs, .non, rfl, rfl, hH2, by rw [rs.length]; exact hlen, F0, H0, F, E.set i none, ex3, ?_, kb⟩
          · exact List.getElem?_set_self (by rw [r.len]; exact hil)
          · have e12 := e1.trans e2
            refine ⟨by simp [r.len], fun j d hj => ?_, fun j d hj => ?_, fun j k x y c hjk hx hy ha => ?_⟩
            · by_cases q : i = j
              · subst q; rw [List.getElem?_set_self hil] at hj; cases hj
              · rw [List.getElem?_set_ne q] at hj ⊢; exact r.val j d hj
            · by_cases q : i = j
              · subst q; rw [List.getElem?_set_self hil] at hj; cases hj
              · rw [List.getElem?_set_ne q] at hj ⊢
                obtain ⟨b, zs, fs, g1, g2, g3, g4, g5, g6, g7⟩ := r.own j d hj
                have ne : b ≠ a := fun z => by
                  subst z
                  obtain ⟨ps, z⟩ := hn _ g3
                  cases z
                exact ⟨b, zs, fs, g1, g2, by rw [upd_ne ne]; exact e12.keep b _ g3 g6 (fun ps z => by cases z), g4, g5, g6, g7⟩
            · have fix : ∀ (j : Nat) (d : D), (E.set i none)[j]? = some (some ⟨true, d⟩) → i ≠ j ∧ E[j]? = some (some ⟨true, d⟩) := fun j d hj => by
                by_cases q : i = j
                · subst q; rw [List.getElem?_set_self hil] at hj; cases hj
                · rw [List.getElem?_set_ne q] at hj; exact ⟨q, hj⟩
              obtain ⟨n1, hx⟩ := fix j x hx
              obtain ⟨n2, hy⟩ := fix k y hy
              rw [List.getElem?_set_ne n1] at ha
              rw [List.getElem?_set_ne n2]
              exact r.dist j k x y c hjk hx hy ha
    · exact k.elim
  | _ => exact False.elim k
end
end R

set_option Elab.async false
set_option linter.all false
set_option maxRecDepth 100000
set_option maxHeartbeats 2000000
/-! lists whose rows are new, too -/
namespace R
open PySem PySem.Spec PyProof.Rows L2
open Tree (leaf fail)
def tLN (K : PySem.W.Frag) (m : En → Tree (List D)) : TE := fun σ H Q => ∃ B F E, Good F H ∧ RelE K B F H σ E ∧ (m E).all fun ds => ∀ a xs F' H', Ext F H F' H' → H' a = some (.lst xs) → F'.P a = none → ¬ F'.T a → NT H a → Reps K F' xs ds → (∀ x ∈ xs, NewV H x) → Q (.ref a) H'
structure SLN (X : Cx) (e : Expr) (m : En → Tree (List D)) : Prop where
  pe : PE X e (tLN X.K m)
theorem SLN.sen {X : Cx} {e : Expr} {m : En → Tree (List D)} (h : SLN X e m) : SEN X 1 e (mList m) := ⟨PE.weak h.pe fun σ H Q ⟨B, F, E, g, r, q⟩ => ⟨B, F, E, g, r, Tree.all_mono (fun ds k a xs F' H' e h' n t h0 rp nw =>
  k (.ref a) (F'.add a (.lst xs)) H' (e.freeze h' n t h0) (.lst upd_same (rp.mono (Fz.le_add n))) ⟨a, rfl, h0, .inr ⟨xs, upd_same, nw⟩⟩) (Tree.all_bind.mp q)⟩⟩
theorem lc_wN {K : PySem.W.Frag} {wi : TI} {mi : En → Tree (List D)} {js vs : List Nat} {g : D → En → Tree En} {mt : En → Tree Bool} {me : En → Tree D} {σ : L2.St} {H : Hp} {Q : VK}
    (h2 : ∀ σ H R, (∃ B F E, Good F H ∧ RelE K B F H σ E ∧ (mi E).all fun ds => ∀ J F' H', Ext F H F' H' → Yld K J (fun F2 H2 => Ext F' H' F2 H2) ds → R J H') → wi σ H R) (hj : ∀ j ∈ js, j ∈ vs)
    (h : tLN K (mLc mi vs g mt me) σ H Q) : tLc wi (tG K js g) (tT K mt) (tEN K 0 me) vs σ H Q := by
  obtain ⟨B, F, E, gd, rl, q⟩ := h
  refine h2 σ H _ ⟨B, F, E, gd, rl, Tree.all_mono (fun ds k J F1 H1 e1 y => ?_) (Tree.all_bind.mp q)⟩
  obtain ⟨hz, k⟩ := lineOk_all k
  intro L hL
  -- the new list
  have g1 : Good F1 (upd H1 L (.lst [])) := e1.good.new hL
  have n1 := e1.good.free hL
  have e2 : Ext F1 H1 F1 (upd H1 L (.lst [])) := Ext.new e1.good hL
  refine ⟨fun i n H' => n = ds.length - i ∧ ∃ F' acc xs, Ext F1 H1 F' H' ∧ H' L = some (.lst xs) ∧ F'.P L = none ∧ ¬ F'.T L ∧ Reps K F' xs acc ∧ (∀ x ∈ xs, NewV H x) ∧ acc.length ≤ i ∧
    ((lcLoop g mt me (wipeE E vs) (ds.drop i)).all fun r => ∀ a xs F'' H'', Ext F H F'' H'' → H'' a = some (.lst xs) → F''.P a = none → ¬ F''.T a → NT H a → Reps K F'' xs (acc ++ r) → (∀ x ∈ xs, NewV H x) → Q (.ref a) H''),
    ⟨ds.length, rfl, F1, [], [], e2, upd_same, n1.1, n1.2, .nil, (fun x hx => nomatch hx), Nat.zero_le _, k⟩, ?_⟩
  rintro i n H' ⟨rfl, F', acc, xs, e', hL', np, nt, ra, hnw, hai, q'⟩
  obtain ⟨y1, y2⟩ := y F' H' e' e'.good i
  have h0 : NT H L := ext_none gd e1 hL
  by_cases hi : i < ds.length
  · have hd : ds[i]? = some ds[i] := List.getElem?_eq_getElem hi
    obtain ⟨go, yl⟩ := y1 _ hd
    rw [List.drop_eq_getElem_cons hi] at q'
    refine .inr ⟨go, fun H3 => ∃ F' acc xs, Ext F1 H1 F' H3 ∧ H3 L = some (.lst xs) ∧ F'.P L = none ∧ ¬ F'.T L ∧ Reps K F' xs acc ∧ (∀ x ∈ xs, NewV H x) ∧ acc.length ≤ i + 1 ∧
      ((lcLoop g mt me (wipeE E vs) (ds.drop (i + 1))).all fun r => ∀ a xs F'' H'', Ext F H F'' H'' → H'' a = some (.lst xs) → F''.P a = none → ¬ F''.T a → NT H a → Reps K F'' xs (acc ++ r) → (∀ x ∈ xs, NewV H x) → Q (.ref a) H''),
      fun H3 p => ⟨ds.length - (i + 1), by omega, rfl, p⟩, fun x H3 yx => ?_⟩
    obtain ⟨F3, e3, rx⟩ := yl x H3 yx
    have er := (e1.trans e').trans e3
    obtain ⟨hL3, np3, nt3⟩ := own_ext e3 hL' np nt
    refine ⟨B, F3, wipeE E vs, ds[i], e3.good, (rl.ext er).wipe vs, rx, Tree.all_mono (fun E' k σ' r' b' => ?_) (Tree.all_bind.mp q')⟩
    have hw : L2.wipe σ' vs = L2.wipe σ vs := by
      rw [wipe_but (b'.mono hj)]
      exact wipe_wipe
    refine ⟨hw, B, F3, E', e3.good, r', Tree.all_mono (fun b k F4 H4 e4 => ?_) (Tree.all_bind.mp k)⟩
    obtain ⟨hL4, np4, nt4⟩ := own_ext e4 hL3 np3 nt3
    cases b with
    | false =>
      rw [if_neg Bool.false_ne_true] at k ⊢
      exact ⟨F4, acc, xs, (e'.trans e3).trans e4, hL4, np4, nt4, ra.mono (e3.le.trans e4.le), hnw, by omega, k⟩
    | true =>
      rw [if_pos rfl] at k ⊢
      refine ⟨B, F4, E', e4.good, r'.ext e4, Tree.all_mono (fun d k y F5 H5 e5 ry nv => ?_) (Tree.all_bind.mp k)⟩
      obtain ⟨hL5, np5, nt5⟩ := own_ext e5 hL4 np4 nt4
      have hnw5 : ∀ x ∈ xs ++ [y], NewV H x := fun x hx => by
        rcases List.mem_append.mp hx with hx | hx
        · exact hnw x hx
        · rw [List.mem_singleton.mp hx]
          obtain ⟨b, rfl, hb, _⟩ := nv
          exact newV_back (er.trans e4) ⟨b, rfl, hb⟩
      refine ⟨xs, hL5, by rw [ra.length]; omega, F5, acc ++ [d], xs ++ [y], (((e'.trans e3).trans e4).trans e5).write np5 nt5 (.none hL) ⟨_, hL5⟩, upd_same, np5, nt5, (ra.mono ((e3.le.trans e4.le).trans e5.le)).append (.cons ry .nil), hnw5, by rw [List.length_append]; show acc.length + 1 ≤ i + 1; omega, ?_⟩
      refine Tree.all_mono (fun r k => ?_) (Tree.all_bind.mp k)
      intro a zs F'' H'' e'' z1 z2 z3 z4 z5 z6
      exact k a zs F'' H'' e'' z1 z2 z3 z4 (by rw [List.append_assoc] at z5; exact z5) z6
  · refine .inl ⟨y2 (by omega), ?_⟩
    rw [List.drop_eq_nil_of_le (by omega)] at q'
    have q' := q' L xs F' H' (e1.trans e') hL' np nt h0
    rw [List.append_nil] at q'
    exact q' ra hnw

theorem sln_lc {X : Cx} {elt tg iter : Expr} {ifs : List Expr} {scope : Scope} {own : List (Str × Nat)} {pos : Pos} {mi : En → Tree (List D)} {js : List Nat} {g : D → En → Tree En} {mt : En → Tree Bool} {me : En → Tree D}
    (hc : X.calm = true) (hN : X.N.Nodup) (hi : SIp X tg iter mi) (ok : BlkOk X.N X.env.scope scope own)
    (hg : ∀ (s : Shared) (H : Hp) (C : Addr) (cl : List (Str × Addr)) (fp : List Addr), SG (X.blk s H scope (compEnvC scope cl C X.env) fp) tg js g) (ht : ∀ (s : Shared) (H : Hp) (C : Addr) (cl : List (Str × Addr)) (fp : List Addr), STs (X.blk s H scope (compEnvC scope cl C X.env) fp) ifs mt)
    (he : ∀ (s : Shared) (H : Hp) (C : Addr) (cl : List (Str × Addr)) (fp : List Addr), SEN (X.blk s H scope (compEnvC scope cl C X.env) fp) 0 elt me) (hj : ∀ j ∈ js, j ∈ own.map (·.2)) (hs : ∀ x, foldedSetIterable iter X.env x = pure x := by intro _; rfl) :
    SLN X (.ListComp elt [⟨tg, iter, ifs, 0⟩] scope pos) (mLc mi (own.map (·.2)) g mt me) := by
  obtain ⟨wi, h1, h2⟩ := hi.pi
  exact ⟨PE.weak (pe_lc hc hN h1 ok (fun s H C cl fp => (hg s H C cl fp).pg) (fun s H C cl fp => (ht s H C cl fp).pts) (fun s H C cl fp => (he s H C cl fp).pe) hs) fun σ H Q h => lc_wN h2 hj h⟩
theorem atI0 (x : V) (xs : List V) : atI (x :: xs) 0 = some x := by
  unfold atI ixN
  rw [if_pos (by omega), if_pos (by simp)]
  rfl
section
variable {X : Cx} {x : Str} {e : Expr}
/-- told = e; if c: return False; told[0].append(None); the rest -/
def oTold0 (i : Nat) (me : En → Tree D) (mt : En → Tree Bool) (mr : En → Tree Out) : En → Tree Out := fun E => (me E).bind fun d => match d with
  | .lst (.lst ds :: es) => if ds.length < sizeLine ∧ i < E.length then (mt (E.put i (.lst (.lst ds :: es)))).bind fun c => if c = true then leaf (.rt (.bl false)) else mr (E.set i none) else fail
  | _ => fail
theorem s_told0 {i : Nat} {rest : List Stmt} {c : Expr} {me : En → Tree D} {mt : En → Tree Bool} {mr : En → Tree Out} {p1 p2 p4 p5 p6 p7 p9 p10 : Pos} {r1 c1 : Expr} {p11 p12 : Pos} {kk : Nat} (hN : X.N.Nodup) (hi : X.N[i]? = some x) (hx : Loc X.env.scope x) (hf : X.fn x = true ∨ X.env.scope.names.lookup x = some .local)
    (he : SEN X 1 e me) (hv : PE X (.Name x p6) (tVar i)) (ht : ST X c mt) (hr1 : PE X r1 (tC (.bl false))) (hc1 : PE X c1 (tC .non)) (hrest : SSs X rest mr)
    (hs0 : swapsWith e (some (.Name x p1)) p2.line X.env = pure false := by rfl)
    (hb : attributeBase (.Subscript (.Name x p6) (.Constant (.int 0) kk p11) p12) "append" X.env (eval (.Subscript (.Name x p6) (.Constant (.int 0) kk p11) p12) X.env) = eval (.Subscript (.Name x p6) (.Constant (.int 0) kk p11) p12) X.env := by rfl) (hl : (p7.endLine == p9.line) = true := by rfl)
    (hfew : ((backTo p9 (starEach [c1] X.env)).all (fun x => !x.1) && (backToKw p9 (keywordEach [] X.env)).all (fun x => x.1.isSome) && decide (([c1] : List Expr).length + ([] : List Keyword).length + (if ([] : List Keyword).isEmpty then 0 else 1) < 30)) = true := by rfl)
    (hs : starEach [c1] X.env = (false, eval c1 X.env) :: starEach [] X.env := by rfl) (hw : swapsWith (.Call (.Attribute (.Subscript (.Name x p6) (.Constant (.int 0) kk p11) p12) "append" p7) [c1] [] p9) none p10.line X.env = pure false := by rfl) :
    SSs X (.Assign [.Name x p1] e p2 :: .If c [.Return (some r1) p4] [] p5 :: .Expr (.Call (.Attribute (.Subscript (.Name x p6) (.Constant (.int 0) kk p11) p12) "append" p7) [c1] [] p9) p10 :: rest) (oTold0 i me mt mr) := by
  refine ⟨PSs.weak (pss_cons (ps_set hN hi hx he.pe hs0 hf) (pss_cons (ps_if ht.pt (pss_one (ps_ret hr1)) pss_nil) (pss_cons (ps_expr (pe_bm PySem.F.plainAttrs_list PySem.F.slot_list_append PySem.F.type_list_append mt_append (pe_ix ix_list hv pe_int (fun _ _ => rfl)) (pa_cons hc1 pa_nil hs) hb hfew hl hs (by rfl)) hw) hrest.ps))) fun D0 σ H ⟨F0, H0, F, E, ex, r, q⟩ => ?_⟩
  refine ⟨B0 H0, F, E, ex.good, r, Tree.all_mono (fun d k v F1 H1 e1 rv nv => ?_) (Tree.all_bind.mp q)⟩
  cases rv with
  | @lst a xs ds0 hP rs =>
    cases rs with
    | nil => exact False.elim k
    | @cons x0 d0 xs' es r0 rs' =>
      cases r0 with
      | @lst b ys ds hPb rsb =>
        have k : (if ds.length < sizeLine ∧ i < E.length then (mt (E.put i (.lst (.lst ds :: es)))).bind fun c => if c = true then leaf (.rt (.bl false)) else mr (E.set i none) else fail : Tree Out).all (Post X.K F0 H0 F D0) := k
        split at k
        · rename_i hlen
          obtain ⟨hlen, hil⟩ := hlen
          obtain ⟨a', ea, hna, hnx⟩ := nv
          cases ea
          obtain ⟨b', eb, hn⟩ : NewV H (.ref b) := by
            rcases hnx with z | ⟨zs, hz, hzs⟩
            · cases z
            · rw [hP] at hz
              cases hz
              exact hzs _ List.mem_cons_self
          cases eb
          have r1' := (r.ext e1).put i (Rep.lst hP (.cons (.lst hPb rsb) rs'))
          refine ⟨B0 H0, F1, E.put i (.lst (.lst ds :: es)), e1.good, r1', Tree.all_mono (fun bb kb F2 H2 e2 => ?_) (Tree.all_bind.mp k)⟩
          cases bb with
          | true =>
            have kb : Post X.K F0 H0 F D0 (.rt (.bl false)) := kb
            exact kb (.bl false) F2 H2 ((ex.trans e1).trans e2) (e1.le.trans e2.le) (.bl false)
          | false =>
            have kb : (mr (E.set i none)).all (Post X.K F0 H0 F D0) := kb
            have hHa : H2 a = some (.lst (.ref b :: xs')) := e2.good.sub a _ (e2.mono a _ hP)
            have hH2 : H2 b = some (.lst ys) := e2.good.sub b _ (e2.mono b _ hPb)
            have np : F.P b = none := by
              rcases hq : F.P b with _ | o
              · rfl
              · exact (newV_none ex.good hn hq).elim
            have nt := newV_pot ex.good hn
            have h0 : NT H0 b := ex.back hn fun t => nt (ex.monoT b t)
            have ex2 : Ext F0 H0 F H2 := ex.roll (e1.trans e2)
            have ex3 : Ext F0 H0 F (upd H2 b (.lst (ys ++ [.non]))) := ex2.write np nt h0 ⟨ys, hH2⟩
            refine ⟨.ref a, List.getElem?_set_self (by rw [r.len]; exact hil), a, .ref b :: xs', 0, .ref b, rfl, rfl, .of hHa, atI0 _ _, .inl ⟨rfl, ys, .of hH2⟩, b, ys, .non, rfl, rfl, hH2, by rw [rsb.length]; exact hlen, F0, H0, F, E.set i none, ex3, ?_, kb⟩
            have e12 := e1.trans e2
            refine ⟨by simp [r.len], fun j d hj => ?_, fun j d hj => ?_, fun j k x y c hjk hx hy ha => ?_⟩
            · by_cases q : i = j
              · subst q; rw [List.getElem?_set_self hil] at hj; cases hj
              · rw [List.getElem?_set_ne q] at hj ⊢; exact r.val j d hj
            · by_cases q : i = j
              · subst q; rw [List.getElem?_set_self hil] at hj; cases hj
              · rw [List.getElem?_set_ne q] at hj ⊢
                obtain ⟨c, zs, fs, g1, g2, g3, g4, g5, g6, g7⟩ := r.own j d hj
                have ne : c ≠ b := fun z => by
                  subst z
                  obtain ⟨ps, z⟩ := hn _ g3
                  cases z
                exact ⟨c, zs, fs, g1, g2, by rw [upd_ne ne]; exact e12.keep c _ g3 g6 (fun ps z => by cases z), g4, g5, g6, g7⟩
            · have fix : ∀ (j : Nat) (d : D), (E.set i none)[j]? = some (some ⟨true, d⟩) → i ≠ j ∧ E[j]? = some (some ⟨true, d⟩) := fun j d hj => by
                by_cases q : i = j
                · subst q; rw [List.getElem?_set_self hil] at hj; cases hj
                · rw [List.getElem?_set_ne q] at hj; exact ⟨q, hj⟩
              obtain ⟨n1, hx⟩ := fix j x hx
              obtain ⟨n2, hy⟩ := fix k y hy
              rw [List.getElem?_set_ne n1] at ha
              rw [List.getElem?_set_ne n2]
              exact r.dist j k x y c hjk hx hy ha
        · exact k.elim
      | _ => exact False.elim k
  | _ => exact False.elim k
end
/-! ### x, y = L1, L2: two own lists -/
section
variable {X : Cx}
def oParLL (i j : Nat) (m1 m2 : En → Tree (List D)) : En → Tree Out := fun E => (m1 E).bind fun ds => (m2 E).bind fun es => leaf (.nx ((E.putOwn i (.lst ds)).putOwn j (.lst es)))
theorem own_ne {K : PySem.W.Frag} {B : Addr → Prop} {F : Fz} {H : Hp} {σ : L2.St} {E : En} (r : RelE K B F H σ E) {a : Addr} (h : NT H a) {j : Nat} {d : D} (hj : E[j]? = some (some ⟨true, d⟩)) : σ[j]? ≠ some (some (.ref a)) := fun z => by
  obtain ⟨b, zs, fs, g1, g2, g3, _⟩ := r.own j d hj
  rw [g1] at z
  cases z
  obtain ⟨ps, e⟩ := h _ g3
  cases e
theorem s_parLL {i j : Nat} {st : Stmt} {e1 e2 : Expr} {m1 m2 : En → Tree (List D)} (hij : i ≠ j) (h1 : SL X e1 m1) (h2 : SL X e2 m2) (hs : starEach [e1, e2] X.env = (false, eval e1 X.env) :: starEach [e2] X.env) (hs2 : starEach [e2] X.env = (false, eval e2 X.env) :: starEach [] X.env)
    (h : ∀ ta, PA X [e1, e2] ta → PS X st (tPar i j ta)) : SS X st (oParLL i j m1 m2) := by
  refine ⟨PS.weak (h _ (pa_cons h1.pe (pa_cons h2.pe pa_nil hs2) hs)) fun D0 σ H ⟨F0, H0, F, E, e, r, q⟩ => ?_⟩
  refine ⟨B0 H0, F, E, e.good, r, Tree.all_mono (fun ds k a xs F1 H1 x1 ha na ta za ra => ?_) (Tree.all_bind.mp q)⟩
  refine ⟨B0 H0, F1, E, x1.good, r.ext x1, Tree.all_mono (fun es k b ys F2 H2 x2 hb nb tb zb rb => ?_) (Tree.all_bind.mp k)⟩
  obtain ⟨ha2, na2, ta2⟩ := own_ext x2 ha na ta
  have b0 : ∀ {c : Addr}, NT H c → B0 H0 c := fun hc => e.back hc fun t => by
    obtain ⟨x, y, z, _⟩ := (e.good.pot _ (e.monoT _ t)).2
    obtain ⟨ps, w⟩ := hc _ z
    cases w
  have zb' : NT H b := x1.back zb fun t => by
    exact tb (x2.monoT b (x1.monoT b t))
  have r2 := (r.ext x1).ext x2
  have r3 := r2.putOwn i ha2 (ra.mono x2.le) na2 ta2 (b0 za) fun j' d hj' hd => own_ne r za hd
  have r4 := r3.putOwn j hb rb nb tb (b0 zb') fun j' d hj' hd => by
    by_cases q : i = j'
    · subst q
      intro z
      have hl : i < σ.length := by
        have := (List.getElem?_eq_some_iff.mp hd).1
        rw [r.len]
        simpa [En.putOwn] using this
      rw [List.getElem?_set_self hl] at z
      cases z
      obtain ⟨ps, w⟩ := zb _ ha
      cases w
    · rw [List.getElem?_set_ne q]
      rw [En.putOwn, List.getElem?_set_ne q] at hd
      exact own_ne r zb' hd
  exact ⟨.ref a, .ref b, rfl, (show Post X.K F0 H0 F D0 (.nx _) from k) _ F2 H2 ((e.trans x1).trans x2) (x1.le.trans x2.le) r4⟩
end
section
variable {P : Program} {w : World} {K : PySem.W.Frag} {mg : Str → Option Value} {base : Heap}
theorem calN_mk {x : Str} {st : Stmt} {fn : List D → Tree D} {k z : Nat} {ps : List Str} (a : At K mg x st) (c : ∀ f fd, Fun K x x st f fd → FnG P w K mg base k f fd ps (spN K z fn))
    (hb : ∀ (kV doc pm : Value) (an : Option Addr) (cdv ct : Value) (us : List Value), us.length = ps.length → bindArgs (PySem.W.fnOf x x (defArgs st) (defBody st) (defScope st) .none kV doc pm an cdv ct) ⟨us, []⟩ = pure (ps.zip us)) : CalN P w K mg base k z x fn := by
  obtain ⟨f, fd, F, hm⟩ := a.ex
  exact ⟨f, fd, ps, c f fd F, hm, F.kp, F.binds hb⟩
end
end R

set_option Elab.async false
set_option linter.all false
set_option maxRecDepth 100000
set_option maxHeartbeats 4000000
namespace R
open PySem PySem.Spec PyProof.Rows L2
def mRepL (ma mb : En → Tree D) : En → Tree (List D) := fun E => (ma E).bind fun d => (mb E).bind fun e => opRepL d e
def mListOf (m : En → Tree D) : En → Tree (List D) := fun E => (m E).bind fList
def mListRg (m m2 : En → Tree D) : En → Tree (List D) := fun E => (m E).bind fun d => (m2 E).bind fun d2 => match d, d2 with
  | .int i, .int j => if (rgOk i && rgOk j) = true then .leaf (rangeD i j) else .fail
  | _, _ => .fail
def mListR1 (m : En → Tree D) : En → Tree (List D) := fun E => (m E).bind fun d => match d with
  | .int j => if (rgOk 0 && rgOk j) = true then .leaf (rangeD 0 j) else .fail
  | _ => .fail
end R
namespace Law
open PySem PySem.Spec PyProof.Rows L2 R LamX
def FUEL : Nat := 2 ^ 9000
def topS (i : Nat) : Stmt := PySem.Challenge.rw_chancepairs_k13_whole_lots_mixed_moved_g.prog.main.body.getD i (.Pass ⟨0, 0, 0, 0⟩)
structure Nb (mg : Str → Option Value) : Prop where
  b_abs : mg "abs" = none
  b_all : mg "all" = none
  b_any : mg "any" = none
  b_bool : mg "bool" = none
  b_divmod : mg "divmod" = none
  b_enumerate : mg "enumerate" = none
  b_int : mg "int" = none
  b_isinstance : mg "isinstance" = none
  b_len : mg "len" = none
  b_list : mg "list" = none
  b_max : mg "max" = none
  b_min : mg "min" = none
  b_range : mg "range" = none
  b_repr : mg "repr" = none
  b_set : mg "set" = none
  b_sum : mg "sum" = none
  b_tuple : mg "tuple" = none
  b_zip : mg "zip" = none
/-! ### is_integer, level 1 -/
abbrev s_is_integer : Stmt := topS 13
abbrev N_is_integer : List Str := ["value"]
theorem sc_is_integer : FnScope N_is_integer ["value"] (defScope s_is_integer) := ⟨rfl, rfl, rfl, by decide +kernel, rfl, by decide +kernel, by decide +kernel⟩
def b_is_integer : En → Tree Out := (oRet (mAndV (mA fIsi (aCons (mPeek 0) (aCons (fun _ => .leaf (.ty "int")) aNil))) (mNotV (mA fIsi (aCons (mPeek 0) (aCons (fun _ => .leaf (.ty "bool")) aNil))))))
def f_is_integer : List D → Tree D := mDef 1 1 b_is_integer
/-! ### divisor, level 1 -/
abbrev s_divisor : Stmt := topS 18
abbrev N_divisor : List Str := ["one", "late"]
theorem sc_divisor : FnScope N_divisor ["one", "late"] (defScope s_divisor) := ⟨rfl, rfl, rfl, by decide +kernel, rfl, by decide +kernel, by decide +kernel⟩
def b_divisor : En → Tree Out := (oSeq (oWhile (mC cGt (mPeek 1) (fun _ => .leaf (.int 0)))
  (oPar 0 1 (aCons (mVar 1) (aCons (m2 opMod (mA fInt (aCons (mPeek 0) aNil)) (mPeek 1)) aNil))) FUEL)
  (oRet (mVar 0)))
def f_divisor : List D → Tree D := mDef 2 2 b_divisor
/-! ### is_fraction_of, level 2 -/
abbrev s_is_fraction_of : Stmt := topS 19
abbrev N_is_fraction_of : List Str := ["value"]
theorem sc_is_fraction_of : FnScope N_is_fraction_of ["value"] (defScope s_is_fraction_of) := ⟨rfl, rfl, rfl, by decide +kernel, rfl, by decide +kernel, by decide +kernel⟩
def b_is_fraction_of : En → Tree Out := (oSeq (oIf (mOr (mNot (mT (mA fIsi (aCons (mPeek 0) (aCons (fun _ => .leaf (.ty "tuple")) aNil))))) (mOr (mC cNe (mA fLen (aCons (mPeek 0) aNil)) (fun _ => .leaf (.int 2))) (mOr (mNot (mT (mA f_is_integer (aCons (m2 opIx (mPeek 0) (fun _ => .leaf (.int 0))) aNil)))) (mNot (mT (mA f_is_integer (aCons (m2 opIx (mPeek 0) (fun _ => .leaf (.int 1))) aNil)))))))
  (oRet (fun _ => .leaf (.bl false)))
  oNx)
  (oRet (mAndV (mB (mC cGe (m2 opIx (mPeek 0) (fun _ => .leaf (.int 1))) (fun _ => .leaf (.int 1)))) (mB (mC cEq (mA f_divisor (aCons (mA fAbs (aCons (m2 opIx (mPeek 0) (fun _ => .leaf (.int 0))) aNil)) (aCons (m2 opIx (mPeek 0) (fun _ => .leaf (.int 1))) aNil))) (fun _ => .leaf (.int 1)))))))
def f_is_fraction_of : List D → Tree D := mDef 1 1 b_is_fraction_of
/-! ### reduced, level 2 -/
abbrev s_reduced : Stmt := topS 24
abbrev N_reduced : List Str := ["top", "bottom", "common"]
theorem sc_reduced : FnScope N_reduced ["top", "bottom"] (defScope s_reduced) := ⟨rfl, rfl, rfl, by decide +kernel, rfl, by decide +kernel, by decide +kernel⟩
def b_reduced : En → Tree Out := (oSeq (oIf (mC cLt (mPeek 1) (fun _ => .leaf (.int 0)))
  (oPar 0 1 (aCons (m2 opSub (fun _ => .leaf (.int 0)) (mPeek 0)) (aCons (m2 opSub (fun _ => .leaf (.int 0)) (mPeek 1)) aNil)))
  oNx)
  (oSeq (oSet 2 (mA f_divisor (aCons (mA fAbs (aCons (mPeek 0) aNil)) (aCons (mVar 1) aNil))))
  (oRet (mTup (aCons (m2 opDiv (mPeek 0) (mPeek 2)) (aCons (m2 opDiv (mPeek 1) (mPeek 2)) aNil))))))
def f_reduced : List D → Tree D := mDef 2 3 b_reduced
/-! ### add, level 3 -/
abbrev s_add : Stmt := topS 25
abbrev N_add : List Str := ["one", "late"]
theorem sc_add : FnScope N_add ["one", "late"] (defScope s_add) := ⟨rfl, rfl, rfl, by decide +kernel, rfl, by decide +kernel, by decide +kernel⟩
def b_add : En → Tree Out := (oRet (mA f_reduced (aCons (m2 opAdd (m2 opMul (m2 opIx (mPeek 0) (fun _ => .leaf (.int 0))) (m2 opIx (mPeek 1) (fun _ => .leaf (.int 1)))) (m2 opMul (m2 opIx (mPeek 1) (fun _ => .leaf (.int 0))) (m2 opIx (mPeek 0) (fun _ => .leaf (.int 1))))) (aCons (m2 opMul (m2 opIx (mPeek 0) (fun _ => .leaf (.int 1))) (m2 opIx (mPeek 1) (fun _ => .leaf (.int 1)))) aNil))))
def f_add : List D → Tree D := mDef 2 2 b_add
/-! ### total, level 4 -/
abbrev s_total : Stmt := topS 29
abbrev N_total : List Str := ["some", "found", "one"]
theorem sc_total : FnScope N_total ["some"] (defScope s_total) := ⟨rfl, rfl, rfl, by decide +kernel, rfl, by decide +kernel, by decide +kernel⟩
def b_total : En → Tree Out := (oSeq (oSet 1 (fun _ => .leaf (.tup [(.int 0), (.int 1)])))
  (oSeq (oFor (mSeq (mVar 0)) (gPut 2)
  (oSet 1 (mA f_add (aCons (mVar 1) (aCons (mVar 2) aNil)))))
  (oRet (mVar 1))))
def f_total : List D → Tree D := mDef 1 3 b_total
/-! ### is_lot_of, level 5 -/
abbrev s_is_lot_of : Stmt := topS 34
abbrev N_is_lot_of : List Str := ["value", "one"]
theorem sc_is_lot_of : FnScope N_is_lot_of ["value"] (defScope s_is_lot_of) := ⟨rfl, rfl, rfl, by decide +kernel, rfl, by decide +kernel, by decide +kernel⟩
def b_is_lot_of : En → Tree Out := (oSeq (oIf (mOr (mNot (mT (mA fIsi (aCons (mPeek 0) (aCons (fun _ => .leaf (.ty "tuple")) aNil))))) (mNot (mCh cLe cLe (fun _ => .leaf (.int 1)) (mA fLen (aCons (mPeek 0) aNil)) (fun _ => .leaf (.int 8)))))
  (oRet (fun _ => .leaf (.bl false)))
  oNx)
  (oSeq (oIf (mNot (mT (mA fAll (aCons (mList (mLc (mSeq (mPeek 0)) [1] (gPut 1) tYesM (mAndV (mA f_is_fraction_of (aCons (mVar 1) aNil)) (mB (mC cGe (m2 opIx (mPeek 1) (fun _ => .leaf (.int 0))) (fun _ => .leaf (.int 0))))))) aNil))))
  (oRet (fun _ => .leaf (.bl false)))
  oNx)
  (oRet (mB (mC cEq (mA f_total (aCons (mVar 0) aNil)) (fun _ => .leaf (.tup [(.int 1), (.int 1)])))))))
def f_is_lot_of : List D → Tree D := mDef 1 2 b_is_lot_of
/-! ### is_short, level 3 -/
abbrev s_is_short : Stmt := topS 20
abbrev N_is_short : List Str := ["value"]
theorem sc_is_short : FnScope N_is_short ["value"] (defScope s_is_short) := ⟨rfl, rfl, rfl, by decide +kernel, rfl, by decide +kernel, by decide +kernel⟩
def b_is_short : En → Tree Out := (oRet (mAndV (mA f_is_fraction_of (aCons (mVar 0) aNil)) (mAndV (mB (mC cLt (mA fAbs (aCons (m2 opIx (mPeek 0) (fun _ => .leaf (.int 0))) aNil)) (fun _ => .leaf (.int 1000000000000)))) (mB (mC cLt (m2 opIx (mPeek 0) (fun _ => .leaf (.int 1))) (fun _ => .leaf (.int 1000000000000)))))))
def f_is_short : List D → Tree D := mDef 1 1 b_is_short
/-! ### is_short_lot, level 6 -/
abbrev s_is_short_lot : Stmt := topS 35
abbrev N_is_short_lot : List Str := ["value", "one"]
theorem sc_is_short_lot : FnScope N_is_short_lot ["value"] (defScope s_is_short_lot) := ⟨rfl, rfl, rfl, by decide +kernel, rfl, by decide +kernel, by decide +kernel⟩
def b_is_short_lot : En → Tree Out := (oRet (mAndV (mA f_is_lot_of (aCons (mVar 0) aNil)) (mA fAll (aCons (mList (mLc (mSeq (mPeek 0)) [1] (gPut 1) tYesM (mA f_is_short (aCons (mVar 1) aNil)))) aNil))))
def f_is_short_lot : List D → Tree D := mDef 1 2 b_is_short_lot
/-! ### check_lot, level 7 -/
abbrev s_check_lot : Stmt := topS 36
abbrev N_check_lot : List Str := ["value"]
theorem sc_check_lot : FnScope N_check_lot ["value"] (defScope s_check_lot) := ⟨rfl, rfl, rfl, by decide +kernel, rfl, by decide +kernel, by decide +kernel⟩
def b_check_lot : En → Tree Out := (oIf (mNot (mT (mA f_is_short_lot (aCons (mVar 0) aNil))))
  oFail
  oNx)
def f_check_lot : List D → Tree D := mDef 1 1 b_check_lot
/-! ### check_two, level 8 -/
abbrev s_check_two : Stmt := topS 37
abbrev N_check_two : List Str := ["lot", "other"]
theorem sc_check_two : FnScope N_check_two ["lot", "other"] (defScope s_check_two) := ⟨rfl, rfl, rfl, by decide +kernel, rfl, by decide +kernel, by decide +kernel⟩
def b_check_two : En → Tree Out := (oSeq (oEx (mA f_check_lot (aCons (mVar 0) aNil)))
  (oEx (mA f_check_lot (aCons (mVar 1) aNil))))
def f_check_two : List D → Tree D := mDef 2 2 b_check_two
/-! ### multiply, level 3 -/
abbrev s_multiply : Stmt := topS 27
abbrev N_multiply : List Str := ["one", "late"]
theorem sc_multiply : FnScope N_multiply ["one", "late"] (defScope s_multiply) := ⟨rfl, rfl, rfl, by decide +kernel, rfl, by decide +kernel, by decide +kernel⟩
def b_multiply : En → Tree Out := (oRet (mA f_reduced (aCons (m2 opMul (m2 opIx (mPeek 0) (fun _ => .leaf (.int 0))) (m2 opIx (mPeek 1) (fun _ => .leaf (.int 0)))) (aCons (m2 opMul (m2 opIx (mPeek 0) (fun _ => .leaf (.int 1))) (m2 opIx (mPeek 1) (fun _ => .leaf (.int 1)))) aNil))))
def f_multiply : List D → Tree D := mDef 2 2 b_multiply
/-! ### beside, level 9 -/
abbrev s_beside : Stmt := topS 56
abbrev N_beside : List Str := ["lot", "other", "one", "late"]
theorem sc_beside : FnScope N_beside ["lot", "other"] (defScope s_beside) := ⟨rfl, rfl, rfl, by decide +kernel, rfl, by decide +kernel, by decide +kernel⟩
def b_beside : En → Tree Out := (oSeqN (oEx (mA f_check_two (aCons (mVar 0) (aCons (mVar 1) aNil))))
  (oRet (mList (mLc (mSeq (mPeek 0)) [2] (gPut 2) tYesM (mList (mLc (mSeq (mPeek 1)) [3] (gPut 3) tYesM (mA f_multiply (aCons (mVar 2) (aCons (mVar 3) aNil)))))))))
def f_beside : List D → Tree D := mDefN 2 4 b_beside
/-! ### _law_plain, level 1 -/
abbrev s_law_plain : Stmt := topS 64
abbrev N_law_plain : List Str := ["top", "bottom", "one", "late", "sign"]
theorem sc_law_plain : FnScope N_law_plain ["top", "bottom"] (defScope s_law_plain) := ⟨rfl, rfl, rfl, by decide +kernel, rfl, by decide +kernel, by decide +kernel⟩
def b_law_plain : En → Tree Out := (oSeq (oPar 2 3 (aCons (mA fAbs (aCons (mPeek 0) aNil)) (aCons (mA fAbs (aCons (mPeek 1) aNil)) aNil)))
  (oSeq (oWhile (mC cNe (mPeek 3) (fun _ => .leaf (.int 0)))
  (oPar 2 3 (aCons (mVar 3) (aCons (m2 opMod (mA fInt (aCons (mPeek 2) aNil)) (mPeek 3)) aNil))) FUEL)
  (oSeq (oSet 4 (mIf (mC cGt (mPeek 1) (fun _ => .leaf (.int 0))) (fun _ => .leaf (.int 1)) (m1 opNeg (fun _ => .leaf (.int 1)))))
  (oRet (mTup (aCons (m2 opDiv (m2 opMul (mPeek 4) (mPeek 0)) (mPeek 2)) (aCons (m2 opDiv (m2 opMul (mPeek 4) (mPeek 1)) (mPeek 2)) aNil)))))))
def f_law_plain : List D → Tree D := mDef 2 5 b_law_plain
/-! ### _law_plus, level 2 -/
abbrev s_law_plus : Stmt := topS 65
abbrev N_law_plus : List Str := ["one", "late"]
theorem sc_law_plus : FnScope N_law_plus ["one", "late"] (defScope s_law_plus) := ⟨rfl, rfl, rfl, by decide +kernel, rfl, by decide +kernel, by decide +kernel⟩
def b_law_plus : En → Tree Out := (oRet (mA f_law_plain (aCons (m2 opAdd (m2 opMul (m2 opIx (mPeek 0) (fun _ => .leaf (.int 0))) (m2 opIx (mPeek 1) (fun _ => .leaf (.int 1)))) (m2 opMul (m2 opIx (mPeek 1) (fun _ => .leaf (.int 0))) (m2 opIx (mPeek 0) (fun _ => .leaf (.int 1))))) (aCons (m2 opMul (m2 opIx (mPeek 0) (fun _ => .leaf (.int 1))) (m2 opIx (mPeek 1) (fun _ => .leaf (.int 1)))) aNil))))
def f_law_plus : List D → Tree D := mDef 2 2 b_law_plus
/-! ### _law_total, level 3 -/
abbrev s_law_total : Stmt := topS 67
abbrev N_law_total : List Str := ["some", "found", "one"]
theorem sc_law_total : FnScope N_law_total ["some"] (defScope s_law_total) := ⟨rfl, rfl, rfl, by decide +kernel, rfl, by decide +kernel, by decide +kernel⟩
def b_law_total : En → Tree Out := (oSeq (oSet 1 (mTup (aCons (fun _ => .leaf (.int 0)) (aCons (fun _ => .leaf (.int 1)) aNil))))
  (oSeq (oFor (mSeq (mVar 0)) (gPut 2)
  (oSet 1 (mA f_law_plus (aCons (mVar 1) (aCons (mVar 2) aNil)))))
  (oRet (mVar 1))))
def f_law_total : List D → Tree D := mDef 1 3 b_law_total
/-! ### _law_times, level 2 -/
abbrev s_law_times : Stmt := topS 66
abbrev N_law_times : List Str := ["one", "late"]
theorem sc_law_times : FnScope N_law_times ["one", "late"] (defScope s_law_times) := ⟨rfl, rfl, rfl, by decide +kernel, rfl, by decide +kernel, by decide +kernel⟩
def b_law_times : En → Tree Out := (oRet (mA f_law_plain (aCons (m2 opMul (m2 opIx (mPeek 0) (fun _ => .leaf (.int 0))) (m2 opIx (mPeek 1) (fun _ => .leaf (.int 0)))) (aCons (m2 opMul (m2 opIx (mPeek 0) (fun _ => .leaf (.int 1))) (m2 opIx (mPeek 1) (fun _ => .leaf (.int 1)))) aNil))))
def f_law_times : List D → Tree D := mDef 2 2 b_law_times
/-! ### _law_draw, level 1 -/
abbrev s_law_draw : Stmt := topS 61
abbrev N_law_draw : List Str := ["pot", "many", "digit"]
theorem sc_law_draw : FnScope N_law_draw ["pot", "many"] (defScope s_law_draw) := ⟨rfl, rfl, rfl, by decide +kernel, rfl, by decide +kernel, by decide +kernel⟩
def f_law_draw : List D → Tree D := fDraw
/-! ### _law_lot, level 2 -/
abbrev s_law_lot : Stmt := topS 68
abbrev N_law_lot : List Str := ["pot", "many", "most", "some", "at", "place", "one"]
theorem sc_law_lot : FnScope N_law_lot ["pot", "many", "most"] (defScope s_law_lot) := ⟨rfl, rfl, rfl, by decide +kernel, rfl, by decide +kernel, by decide +kernel⟩
def b_law_lot : En → Tree Out := (oSeq (oOwn 3 (mLc (mRange1 (mPeek 1)) [5] (gPut 5) tYesM (mIf (mC cGt (mA f_law_draw (aCons (mVar 0) (aCons (fun _ => .leaf (.int 4)) aNil))) (fun _ => .leaf (.int 0))) (mA f_law_draw (aCons (mVar 0) (aCons (m2 opAdd (mPeek 2) (fun _ => .leaf (.int 1))) aNil))) (fun _ => .leaf (.int 0)))))
  (oSeq (oSet 4 (mA f_law_draw (aCons (mVar 0) (aCons (mVar 1) aNil))))
  (oSeq (oStore 3 (mPeek 4) (m2 opAdd (m2 opIx (mPeek 3) (mPeek 4)) (fun _ => .leaf (.int 1))))
  (oRet (mA fTuple (aCons (mList (mLc (mSeq (mPeek 3)) [6] (gPut 6) tYesM (mA f_law_plain (aCons (mVar 6) (aCons (mA fSum (aCons (mPeek 3) aNil)) aNil))))) aNil))))))
def f_law_lot : List D → Tree D := mDef 3 7 b_law_lot
/-! ### is_list, level 1 -/
abbrev s_is_list : Stmt := topS 16
abbrev N_is_list : List Str := ["value"]
theorem sc_is_list : FnScope N_is_list ["value"] (defScope s_is_list) := ⟨rfl, rfl, rfl, by decide +kernel, rfl, by decide +kernel, by decide +kernel⟩
def b_is_list : En → Tree Out := (oRet (mA fIsi (aCons (mPeek 0) (aCons (mTup (aCons (fun _ => .leaf (.ty "list")) (aCons (fun _ => .leaf (.ty "tuple")) aNil))) aNil))))
def f_is_list : List D → Tree D := mDef 1 1 b_is_list
/-! ### check_lots, level 7 -/
abbrev s_check_lots : Stmt := topS 38
abbrev N_check_lots : List Str := ["value", "lot"]
theorem sc_check_lots : FnScope N_check_lots ["value"] (defScope s_check_lots) := ⟨rfl, rfl, rfl, by decide +kernel, rfl, by decide +kernel, by decide +kernel⟩
def b_check_lots : En → Tree Out := (oSeq (oIf (mOr (mNot (mT (mA f_is_list (aCons (mVar 0) aNil)))) (mOr (mNot (mCh cLe cLe (fun _ => .leaf (.int 1)) (mA fLen (aCons (mPeek 0) aNil)) (fun _ => .leaf (.int 6)))) (mNot (mT (mA fAll (aCons (mList (mLc (mSeq (mPeek 0)) [1] (gPut 1) tYesM (mA f_is_short_lot (aCons (mVar 1) aNil)))) aNil))))))
  oFail
  oNx)
  (oIf (mNot (mT (mA fAll (aCons (mList (mLc (mSeq (mPeek 0)) [1] (gPut 1) tYesM (mB (mC cEq (mA fLen (aCons (mPeek 1) aNil)) (mA fLen (aCons (m2 opIx (mPeek 0) (fun _ => .leaf (.int 0))) aNil)))))) aNil))))
  oFail
  oNx))
def f_check_lots : List D → Tree D := mDef 1 2 b_check_lots
/-! ### products_sum, level 5 -/
abbrev s_products_sum : Stmt := topS 30
abbrev N_products_sum : List Str := ["some", "others", "one", "late"]
theorem sc_products_sum : FnScope N_products_sum ["some", "others"] (defScope s_products_sum) := ⟨rfl, rfl, rfl, by decide +kernel, rfl, by decide +kernel, by decide +kernel⟩
def b_products_sum : En → Tree Out := (oRet (mA f_total (aCons (mList (mLc (mZip (mPeek 0) (mPeek 1)) [2, 3] (gTp 2 (gsCons (gPut 2) (gsCons (gPut 3) gsNil))) tYesM (mA f_multiply (aCons (mVar 2) (aCons (mVar 3) aNil))))) aNil)))
def f_products_sum : List D → Tree D := mDef 2 4 b_products_sum
/-! ### mixed_of, level 6 -/
abbrev s_mixed_of : Stmt := topS 45
abbrev N_mixed_of : List Str := ["weights", "lots", "place", "lot"]
theorem sc_mixed_of : FnScope N_mixed_of ["weights", "lots"] (defScope s_mixed_of) := ⟨rfl, rfl, rfl, by decide +kernel, rfl, by decide +kernel, by decide +kernel⟩
def b_mixed_of : En → Tree Out := (oRet (mA fTuple (aCons (mList (mLc (mRange1 (mA fLen (aCons (m2 opIx (mPeek 1) (fun _ => .leaf (.int 0))) aNil))) [2] (gPut 2) tYesM (mA f_products_sum (aCons (mVar 0) (aCons (mList (mLc (mSeq (mPeek 1)) [3] (gPut 3) tYesM (m2 opIx (mPeek 3) (mPeek 2)))) aNil))))) aNil)))
def f_mixed_of : List D → Tree D := mDef 2 4 b_mixed_of
/-! ### mixed, level 8 -/
abbrev s_mixed : Stmt := topS 54
abbrev N_mixed : List Str := ["weights", "lots"]
theorem sc_mixed : FnScope N_mixed ["weights", "lots"] (defScope s_mixed) := ⟨rfl, rfl, rfl, by decide +kernel, rfl, by decide +kernel, by decide +kernel⟩
def b_mixed : En → Tree Out := (oSeq (oEx (mA f_check_lots (aCons (mVar 1) aNil)))
  (oSeq (oIf (mOr (mNot (mT (mA f_is_short_lot (aCons (mVar 0) aNil)))) (mC cNe (mA fLen (aCons (mPeek 0) aNil)) (mA fLen (aCons (mPeek 1) aNil))))
  oFail
  oNx)
  (oRet (mA f_mixed_of (aCons (mVar 0) (aCons (mVar 1) aNil))))))
def f_mixed : List D → Tree D := mDef 2 2 b_mixed
/-! ### is_lot, level 6 -/
abbrev s_is_lot : Stmt := topS 49
abbrev N_is_lot : List Str := ["value"]
theorem sc_is_lot : FnScope N_is_lot ["value"] (defScope s_is_lot) := ⟨rfl, rfl, rfl, by decide +kernel, rfl, by decide +kernel, by decide +kernel⟩
def b_is_lot : En → Tree Out := (oRet (mA f_is_lot_of (aCons (mVar 0) aNil)))
def f_is_lot : List D → Tree D := mDef 1 1 b_is_lot
/-! ### _law_mean, level 4 -/
abbrev s_law_mean : Stmt := topS 70
abbrev N_law_mean : List Str := ["lot", "worths", "one", "late"]
theorem sc_law_mean : FnScope N_law_mean ["lot", "worths"] (defScope s_law_mean) := ⟨rfl, rfl, rfl, by decide +kernel, rfl, by decide +kernel, by decide +kernel⟩
def b_law_mean : En → Tree Out := (oRet (mA f_law_total (aCons (mList (mLc (mZip (mPeek 0) (mPeek 1)) [2, 3] (gTp 2 (gsCons (gPut 2) (gsCons (gPut 3) gsNil))) tYesM (mA f_law_times (aCons (mVar 2) (aCons (mVar 3) aNil))))) aNil)))
def f_law_mean : List D → Tree D := mDef 2 4 b_law_mean
/-! ### support_of, level 1 -/
abbrev s_support_of : Stmt := topS 43
abbrev N_support_of : List Str := ["lot", "place", "one"]
theorem sc_support_of : FnScope N_support_of ["lot"] (defScope s_support_of) := ⟨rfl, rfl, rfl, by decide +kernel, rfl, by decide +kernel, by decide +kernel⟩
def b_support_of : En → Tree Out := (oRet (mList (mLc (mEnum (mPeek 0)) [1, 2] (gTp 2 (gsCons (gPut 1) (gsCons (gPut 2) gsNil))) (mC cGt (m2 opIx (mPeek 2) (fun _ => .leaf (.int 0))) (fun _ => .leaf (.int 0))) (mVar 1))))
def f_support_of : List D → Tree D := mDefN 1 3 b_support_of
/-! ### support, level 8 -/
abbrev s_support : Stmt := topS 50
abbrev N_support : List Str := ["lot"]
theorem sc_support : FnScope N_support ["lot"] (defScope s_support) := ⟨rfl, rfl, rfl, by decide +kernel, rfl, by decide +kernel, by decide +kernel⟩
def b_support : En → Tree Out := (oSeqN (oEx (mA f_check_lot (aCons (mVar 0) aNil)))
  (oRet (mA f_support_of (aCons (mVar 0) aNil))))
def f_support : List D → Tree D := mDefN 1 1 b_support
/-! ### _law_mixed, level 2 -/
abbrev s_law_mixed : Stmt := topS 63
abbrev N_law_mixed : List Str := ["pot", "some", "left", "found"]
theorem sc_law_mixed : FnScope N_law_mixed ["pot", "some"] (defScope s_law_mixed) := ⟨rfl, rfl, rfl, by decide +kernel, rfl, by decide +kernel, by decide +kernel⟩
def b_law_mixed : En → Tree Out := (oSeq (oParLL 2 3 (mListOf (mPeek 1)) (mLst aNil))
  (oSeq (oWhile (mC cNe (mPeek 2) (mList (mLst aNil)))
  (oAppPop 3 2 (mA f_law_draw (aCons (mVar 0) (aCons (mA fLen (aCons (mPeek 2) aNil)) aNil)))) FUEL)
  (oFrz 3 (oRet (mVar 3)))))
def f_law_mixed : List D → Tree D := mDef 2 4 b_law_mixed
/-! ### is_within, level 2 -/
abbrev s_is_within : Stmt := topS 15
abbrev N_is_within : List Str := ["value", "least", "most"]
theorem sc_is_within : FnScope N_is_within ["value", "least", "most"] (defScope s_is_within) := ⟨rfl, rfl, rfl, by decide +kernel, rfl, by decide +kernel, by decide +kernel⟩
def b_is_within : En → Tree Out := (oRet (mAndV (mA f_is_integer (aCons (mVar 0) aNil)) (mB (mCh cLe cLe (mPeek 1) (mPeek 0) (mPeek 2)))))
def f_is_within : List D → Tree D := mDef 3 3 b_is_within
/-! ### are_places, level 3 -/
abbrev s_are_places : Stmt := topS 41
abbrev N_are_places : List Str := ["many", "value", "one"]
theorem sc_are_places : FnScope N_are_places ["many", "value"] (defScope s_are_places) := ⟨rfl, rfl, rfl, by decide +kernel, rfl, by decide +kernel, by decide +kernel⟩
def b_are_places : En → Tree Out := (oSeq (oIf (mOr (mNot (mT (mA f_is_list (aCons (mVar 1) aNil)))) (mNot (mT (mA fAll (aCons (mList (mLc (mSeq (mPeek 1)) [2] (gPut 2) tYesM (mA f_is_within (aCons (mVar 2) (aCons (fun _ => .leaf (.int 0)) (aCons (m2 opSub (mPeek 0) (fun _ => .leaf (.int 1))) aNil)))))) aNil)))))
  (oRet (fun _ => .leaf (.bl false)))
  oNx)
  (oRet (mB (mC cEq (m1 fLenSet2 (mPeek 1)) (mA fLen (aCons (mPeek 1) aNil))))))
def f_are_places : List D → Tree D := mDef 2 3 b_are_places
/-! ### check_places, level 4 -/
abbrev s_check_places : Stmt := topS 42
abbrev N_check_places : List Str := ["many", "value"]
theorem sc_check_places : FnScope N_check_places ["many", "value"] (defScope s_check_places) := ⟨rfl, rfl, rfl, by decide +kernel, rfl, by decide +kernel, by decide +kernel⟩
def b_check_places : En → Tree Out := (oIf (mNot (mT (mA f_are_places (aCons (mVar 0) (aCons (mVar 1) aNil)))))
  oFail
  oNx)
def f_check_places : List D → Tree D := mDef 2 2 b_check_places
/-! ### has_of, level 5 -/
abbrev s_has_of : Stmt := topS 44
abbrev N_has_of : List Str := ["lot", "places", "place"]
theorem sc_has_of : FnScope N_has_of ["lot", "places"] (defScope s_has_of) := ⟨rfl, rfl, rfl, by decide +kernel, rfl, by decide +kernel, by decide +kernel⟩
def b_has_of : En → Tree Out := (oRet (mA f_total (aCons (mList (mLc (mSeq (mPeek 1)) [2] (gPut 2) tYesM (m2 opIx (mPeek 0) (mPeek 2)))) aNil)))
def f_has_of : List D → Tree D := mDef 2 3 b_has_of
/-! ### has, level 8 -/
abbrev s_has : Stmt := topS 51
abbrev N_has : List Str := ["lot", "places"]
theorem sc_has : FnScope N_has ["lot", "places"] (defScope s_has) := ⟨rfl, rfl, rfl, by decide +kernel, rfl, by decide +kernel, by decide +kernel⟩
def b_has : En → Tree Out := (oSeq (oEx (mA f_check_lot (aCons (mVar 0) aNil)))
  (oSeq (oEx (mA f_check_places (aCons (mA fLen (aCons (mPeek 0) aNil)) (aCons (mVar 1) aNil))))
  (oRet (mA f_has_of (aCons (mVar 0) (aCons (mVar 1) aNil))))))
def f_has : List D → Tree D := mDef 2 2 b_has
/-! ### _law_fraction, level 2 -/
abbrev s_law_fraction : Stmt := topS 69
abbrev N_law_fraction : List Str := ["pot", "most"]
theorem sc_law_fraction : FnScope N_law_fraction ["pot", "most"] (defScope s_law_fraction) := ⟨rfl, rfl, rfl, by decide +kernel, rfl, by decide +kernel, by decide +kernel⟩
def b_law_fraction : En → Tree Out := (oRet (mA f_law_plain (aCons (m2 opSub (mA f_law_draw (aCons (mVar 0) (aCons (m2 opAdd (m2 opMul (fun _ => .leaf (.int 2)) (mPeek 1)) (fun _ => .leaf (.int 1))) aNil))) (mPeek 1)) (aCons (m2 opAdd (fun _ => .leaf (.int 1)) (mA f_law_draw (aCons (mVar 0) (aCons (mVar 1) aNil)))) aNil))))
def f_law_fraction : List D → Tree D := mDef 2 2 b_law_fraction
/-! ### _law_spread, level 4 -/
abbrev s_law_spread : Stmt := topS 71
abbrev N_law_spread : List Str := ["lot", "worths", "found", "one", "near", "late", "far", "gap"]
theorem sc_law_spread : FnScope N_law_spread ["lot", "worths"] (defScope s_law_spread) := ⟨rfl, rfl, rfl, by decide +kernel, rfl, by decide +kernel, by decide +kernel⟩
def b_law_spread : En → Tree Out := (oSeq (oOwn 2 (mLst aNil))
  (oSeq (oFor (mZip (mVar 0) (mVar 1)) (gTp 2 (gsCons (gPut 3) (gsCons (gPut 4) gsNil)))
  (oFor (mZip (mVar 0) (mVar 1)) (gTp 2 (gsCons (gPut 5) (gsCons (gPut 6) gsNil)))
  (oSeq (oSet 7 (mA f_law_plus (aCons (mVar 4) (aCons (mTup (aCons (m2 opSub (fun _ => .leaf (.int 0)) (m2 opIx (mPeek 6) (fun _ => .leaf (.int 0)))) (aCons (m2 opIx (mPeek 6) (fun _ => .leaf (.int 1))) aNil))) aNil))))
  (oApp 2 (mA f_law_times (aCons (mA f_law_times (aCons (mVar 3) (aCons (mVar 5) aNil))) (aCons (mA f_law_times (aCons (mVar 7) (aCons (mVar 7) aNil))) aNil)))))))
  (oFrz 2 (oRet (mA f_law_times (aCons (mA f_law_total (aCons (mVar 2) aNil)) (aCons (mTup (aCons (fun _ => .leaf (.int 1)) (aCons (fun _ => .leaf (.int 2)) aNil))) aNil)))))))
def f_law_spread : List D → Tree D := mDef 2 8 b_law_spread
/-! ### are_worths, level 4 -/
abbrev s_are_worths : Stmt := topS 39
abbrev N_are_worths : List Str := ["many", "value", "one"]
theorem sc_are_worths : FnScope N_are_worths ["many", "value"] (defScope s_are_worths) := ⟨rfl, rfl, rfl, by decide +kernel, rfl, by decide +kernel, by decide +kernel⟩
def b_are_worths : En → Tree Out := (oRet (mAndV (mA f_is_list (aCons (mVar 1) aNil)) (mAndV (mB (mC cEq (mA fLen (aCons (mPeek 1) aNil)) (mPeek 0))) (mA fAll (aCons (mList (mLc (mSeq (mPeek 1)) [2] (gPut 2) tYesM (mA f_is_short (aCons (mVar 2) aNil)))) aNil)))))
def f_are_worths : List D → Tree D := mDef 2 3 b_are_worths
/-! ### check_worths, level 5 -/
abbrev s_check_worths : Stmt := topS 40
abbrev N_check_worths : List Str := ["many", "value"]
theorem sc_check_worths : FnScope N_check_worths ["many", "value"] (defScope s_check_worths) := ⟨rfl, rfl, rfl, by decide +kernel, rfl, by decide +kernel, by decide +kernel⟩
def b_check_worths : En → Tree Out := (oIf (mNot (mT (mA f_are_worths (aCons (mVar 0) (aCons (mVar 1) aNil)))))
  oFail
  oNx)
def f_check_worths : List D → Tree D := mDef 2 2 b_check_worths
/-! ### mean_of, level 6 -/
abbrev s_mean_of : Stmt := topS 47
abbrev N_mean_of : List Str := ["lot", "worths"]
theorem sc_mean_of : FnScope N_mean_of ["lot", "worths"] (defScope s_mean_of) := ⟨rfl, rfl, rfl, by decide +kernel, rfl, by decide +kernel, by decide +kernel⟩
def b_mean_of : En → Tree Out := (oRet (mA f_products_sum (aCons (mVar 0) (aCons (mVar 1) aNil))))
def f_mean_of : List D → Tree D := mDef 2 2 b_mean_of
/-! ### take, level 3 -/
abbrev s_take : Stmt := topS 26
abbrev N_take : List Str := ["one", "late"]
theorem sc_take : FnScope N_take ["one", "late"] (defScope s_take) := ⟨rfl, rfl, rfl, by decide +kernel, rfl, by decide +kernel, by decide +kernel⟩
def b_take : En → Tree Out := (oRet (mA f_reduced (aCons (m2 opSub (m2 opMul (m2 opIx (mPeek 0) (fun _ => .leaf (.int 0))) (m2 opIx (mPeek 1) (fun _ => .leaf (.int 1)))) (m2 opMul (m2 opIx (mPeek 1) (fun _ => .leaf (.int 0))) (m2 opIx (mPeek 0) (fun _ => .leaf (.int 1))))) (aCons (m2 opMul (m2 opIx (mPeek 0) (fun _ => .leaf (.int 1))) (m2 opIx (mPeek 1) (fun _ => .leaf (.int 1)))) aNil))))
def f_take : List D → Tree D := mDef 2 2 b_take
/-! ### spread, level 8 -/
abbrev s_spread : Stmt := topS 53
abbrev N_spread : List Str := ["lot", "worths", "here", "one"]
theorem sc_spread : FnScope N_spread ["lot", "worths"] (defScope s_spread) := ⟨rfl, rfl, rfl, by decide +kernel, rfl, by decide +kernel, by decide +kernel⟩
def b_spread : En → Tree Out := (oSeq (oEx (mA f_check_lot (aCons (mVar 0) aNil)))
  (oSeq (oEx (mA f_check_worths (aCons (mA fLen (aCons (mPeek 0) aNil)) (aCons (mVar 1) aNil))))
  (oSeq (oSet 2 (mA f_mean_of (aCons (mVar 0) (aCons (mVar 1) aNil))))
  (oRet (mA f_take (aCons (mA f_mean_of (aCons (mVar 0) (aCons (mList (mLc (mSeq (mPeek 1)) [3] (gPut 3) tYesM (mA f_multiply (aCons (mVar 3) (aCons (mVar 3) aNil))))) aNil))) (aCons (mA f_multiply (aCons (mVar 2) (aCons (mVar 2) aNil))) aNil)))))))
def f_spread : List D → Tree D := mDef 2 4 b_spread
/-! ### mean, level 8 -/
abbrev s_mean : Stmt := topS 52
abbrev N_mean : List Str := ["lot", "worths"]
theorem sc_mean : FnScope N_mean ["lot", "worths"] (defScope s_mean) := ⟨rfl, rfl, rfl, by decide +kernel, rfl, by decide +kernel, by decide +kernel⟩
def b_mean : En → Tree Out := (oSeq (oEx (mA f_check_lot (aCons (mVar 0) aNil)))
  (oSeq (oEx (mA f_check_worths (aCons (mA fLen (aCons (mPeek 0) aNil)) (aCons (mVar 1) aNil))))
  (oRet (mA f_mean_of (aCons (mVar 0) (aCons (mVar 1) aNil))))))
def f_mean : List D → Tree D := mDef 2 2 b_mean
/-! ### divide, level 3 -/
abbrev s_divide : Stmt := topS 28
abbrev N_divide : List Str := ["one", "late"]
theorem sc_divide : FnScope N_divide ["one", "late"] (defScope s_divide) := ⟨rfl, rfl, rfl, by decide +kernel, rfl, by decide +kernel, by decide +kernel⟩
def b_divide : En → Tree Out := (oRet (mA f_reduced (aCons (m2 opMul (m2 opIx (mPeek 0) (fun _ => .leaf (.int 0))) (m2 opIx (mPeek 1) (fun _ => .leaf (.int 1)))) (aCons (m2 opMul (m2 opIx (mPeek 0) (fun _ => .leaf (.int 1))) (m2 opIx (mPeek 1) (fun _ => .leaf (.int 0)))) aNil))))
def f_divide : List D → Tree D := mDef 2 2 b_divide
/-! ### given_that, level 8 -/
abbrev s_given_that : Stmt := topS 57
abbrev N_given_that : List Str := ["lot", "places", "own", "place", "one"]
theorem sc_given_that : FnScope N_given_that ["lot", "places"] (defScope s_given_that) := ⟨rfl, rfl, rfl, by decide +kernel, rfl, by decide +kernel, by decide +kernel⟩
def b_given_that : En → Tree (Option Out) := (oSeqX (oEx (mA f_check_lot (aCons (mVar 0) aNil)))
  (oSeqX (oEx (mA f_check_places (aCons (mA fLen (aCons (mPeek 0) aNil)) (aCons (mVar 1) aNil))))
  (oSeqX (oSet 2 (mA f_has_of (aCons (mVar 0) (aCons (mVar 1) aNil))))
  (oRaiseIf (mC cEq (m2 opIx (mPeek 2) (fun _ => .leaf (.int 0))) (fun _ => .leaf (.int 0)))
  (oLift (oRet (mA fTuple (aCons (mList (mLc (mEnum (mPeek 0)) [3, 4] (gTp 2 (gsCons (gPut 3) (gsCons (gPut 4) gsNil))) tYesM (mIf (mC (cIn false) (mPeek 3) (mPeek 1)) (mA f_divide (aCons (mVar 4) (aCons (mVar 2) aNil))) (fun _ => .leaf (.tup [(.int 0), (.int 1)]))))) aNil))))))))
def g_given_that : List D → Tree (Option D) := mDefX 2 5 b_given_that
def f_given_that : List D → Tree D := noX g_given_that
/-! ### common_bottom, level 2 -/
abbrev s_common_bottom : Stmt := topS 48
abbrev N_common_bottom : List Str := ["lot", "found", "top", "bottom"]
theorem sc_common_bottom : FnScope N_common_bottom ["lot"] (defScope s_common_bottom) := ⟨rfl, rfl, rfl, by decide +kernel, rfl, by decide +kernel, by decide +kernel⟩
def b_common_bottom : En → Tree Out := (oSeq (oSet 1 (fun _ => .leaf (.int 1)))
  (oSeq (oFor (mSeq (mVar 0)) (gTp 2 (gsCons (gPut 2) (gsCons (gPut 3) gsNil)))
  (oSet 1 (m2 opDiv (m2 opMul (mPeek 1) (mPeek 3)) (mA f_divisor (aCons (mVar 1) (aCons (mVar 3) aNil))))))
  (oRet (mVar 1))))
def f_common_bottom : List D → Tree D := mDef 1 4 b_common_bottom
/-! ### parts, level 8 -/
abbrev s_parts : Stmt := topS 58
abbrev N_parts : List Str := ["lot", "bottom", "top", "own"]
theorem sc_parts : FnScope N_parts ["lot"] (defScope s_parts) := ⟨rfl, rfl, rfl, by decide +kernel, rfl, by decide +kernel, by decide +kernel⟩
def b_parts : En → Tree Out := (oSeq (oEx (mA f_check_lot (aCons (mVar 0) aNil)))
  (oSeq (oSet 1 (mA f_common_bottom (aCons (mVar 0) aNil)))
  (oRet (mTup (aCons (mA fTuple (aCons (mList (mLc (mSeq (mPeek 0)) [2, 3] (gTp 2 (gsCons (gPut 2) (gsCons (gPut 3) gsNil))) tYesM (m2 opMul (mPeek 2) (m2 opDiv (mPeek 1) (mPeek 3))))) aNil)) (aCons (mVar 1) aNil))))))
def f_parts : List D → Tree D := mDef 1 4 b_parts
/-! ### _law_one_right, level 11 -/
abbrev s_law_one_right : Stmt := topS 73
abbrev N_law_one_right : List Str := ["pot", "lot", "many", "shown", "due", "told", "own", "late", "worths", "named", "rest", "both", "tops", "bottom", "places", "place", "at", "one", "top"]
theorem sc_law_one_right : FnScope N_law_one_right ["pot", "lot"] (defScope s_law_one_right) := ⟨rfl, rfl, rfl, by decide +kernel, rfl, by decide +kernel, by decide +kernel⟩
def b_law_one_right : En → Tree Out := (oSeq (oPar 2 3 (aCons (mA fLen (aCons (mPeek 1) aNil)) (aCons (mA fRepr (aCons (mPeek 1) aNil)) aNil)))
  (oSeq (oSet 4 (mList (mLc (mRange1 (mPeek 2)) [15] (gPut 15) (mC cNe (m2 opIx (m2 opIx (mPeek 1) (mPeek 15)) (fun _ => .leaf (.int 0))) (fun _ => .leaf (.int 0))) (mVar 15))))
  (oTold 5 (mA f_support (aCons (mVar 1) aNil)) (mC cNe (mA fRepr (aCons (mList (mLst (aCons (mVar 5) (aCons (mA (fun ds => f_support (permD [0] ds)) (aCons (mVar 1) aNil)) aNil)))) aNil)) (mA fRepr (aCons (mList (mLst (aCons (mVar 4) (aCons (mVar 4) aNil)))) aNil)))
  (oSeq (oSet 14 (mCut (mA f_law_mixed (aCons (mVar 0) (aCons (mList (mListR1 (mPeek 2))) aNil))) (fun _ => .leaf none) (mPart (mA f_law_draw (aCons (mVar 0) (aCons (m2 opAdd (mPeek 2) (fun _ => .leaf (.int 1))) aNil))))))
  (oSeq (oSet 6 (mA f_law_total (aCons (mList (mLc (mSeq (mPeek 14)) [15] (gPut 15) tYesM (m2 opIx (mPeek 1) (mPeek 15)))) aNil)))
  (oSeq (oIf (mC cNe (mA fRepr (aCons (mList (mLst (aCons (mA f_support (aCons (mVar 1) aNil)) (aCons (mA f_has (aCons (mVar 1) (aCons (mVar 14) aNil))) (aCons (mA (fun ds => f_has (permD [1, 0] ds)) (aCons (mA fTuple (aCons (mPeek 14) aNil)) (aCons (mVar 1) aNil))) aNil))))) aNil)) (mA fRepr (aCons (mList (mLst (aCons (mVar 4) (aCons (mVar 6) (aCons (mVar 6) aNil))))) aNil)))
  (oRet (fun _ => .leaf (.bl false)))
  oNx)
  (oSeq (oSet 7 (fun _ => .leaf (.str "none")))
  (oSeq (oIf (mC cNe (m2 opIx (mPeek 6) (fun _ => .leaf (.int 0))) (fun _ => .leaf (.int 0)))
  (oSet 7 (mA fTuple (aCons (mList (mLc (mEnum (mPeek 1)) [16, 17] (gTp 2 (gsCons (gPut 16) (gsCons (gPut 17) gsNil))) tYesM (mIf (mC (cIn false) (mPeek 16) (mPeek 14)) (mA f_law_times (aCons (mVar 17) (aCons (mRevA (mPeek 6)) aNil))) (mTup (aCons (fun _ => .leaf (.int 0)) (aCons (fun _ => .leaf (.int 1)) aNil)))))) aNil)))
  oNx)
  (oSeq (oOwn 5 (mLst (aCons (mHeard "none" g_given_that (aCons (mVar 1) (aCons (mVar 14) aNil))) aNil)))
  (oSeq (oApp 5 (mHeard "none" (fun ds => g_given_that (permD [1, 0] ds)) (aCons (mA fTuple (aCons (mPeek 14) aNil)) (aCons (mVar 1) aNil))))
  (oSeq (oIf (mC cNe (mA fRepr (aCons (mPeek 5) aNil)) (mA fRepr (aCons (mList (mLst (aCons (mVar 7) (aCons (mVar 7) aNil)))) aNil)))
  (oRet (fun _ => .leaf (.bl false)))
  oNx)
  (oSeq (oSet 8 (mList (mLc (mRange1 (mPeek 2)) [15] (gPut 15) tYesM (mA f_law_fraction (aCons (mVar 0) (aCons (fun _ => .leaf (.int 12)) aNil))))))
  (oSeq (oSet 4 (mList (mLst (aCons (mA f_law_mean (aCons (mVar 1) (aCons (mVar 8) aNil))) (aCons (mA f_law_spread (aCons (mVar 1) (aCons (mVar 8) aNil))) aNil)))))
  (oSeq (oSet 9 (mList (mLst (aCons (mA (fun ds => f_mean (permD [1, 0] ds)) (aCons (mA fTuple (aCons (mPeek 8) aNil)) (aCons (mVar 1) aNil))) (aCons (mA (fun ds => f_spread (permD [1, 0] ds)) (aCons (mVar 8) (aCons (mVar 1) aNil))) aNil)))))
  (oSeq (oIf (mC cNe (mA fRepr (aCons (mList (mLst (aCons (mList (mLst (aCons (mA f_mean (aCons (mVar 1) (aCons (mVar 8) aNil))) (aCons (mA f_spread (aCons (mVar 1) (aCons (mVar 8) aNil))) aNil)))) (aCons (mVar 9) aNil)))) aNil)) (mA fRepr (aCons (mList (mLst (aCons (mVar 4) (aCons (mVar 4) aNil)))) aNil)))
  (oRet (fun _ => .leaf (.bl false)))
  oNx)
  (oSeq (oSet 10 (mList (mLc (mRange1 (mPeek 2)) [15] (gPut 15) (mC (cIn true) (mPeek 15) (mPeek 14)) (mVar 15))))
  (oSeq (oIf (mAnd (mC cNe (m2 opIx (mPeek 6) (fun _ => .leaf (.int 0))) (fun _ => .leaf (.int 0))) (mC cNe (mPeek 6) (mTup (aCons (fun _ => .leaf (.int 1)) (aCons (fun _ => .leaf (.int 1)) aNil)))))
  (oSeq (oSet 11 (mTup (aCons (mVar 6) (aCons (mA f_law_plus (aCons (mTup (aCons (fun _ => .leaf (.int 1)) (aCons (fun _ => .leaf (.int 1)) aNil))) (aCons (mTup (aCons (m2 opSub (fun _ => .leaf (.int 0)) (m2 opIx (mPeek 6) (fun _ => .leaf (.int 0)))) (aCons (m2 opIx (mPeek 6) (fun _ => .leaf (.int 1))) aNil))) aNil))) aNil))))
  (oIf (mC cNe (mA f_mixed (aCons (mVar 11) (aCons (mList (mLst (aCons (mA f_given_that (aCons (mVar 1) (aCons (mVar 14) aNil))) (aCons (mA f_given_that (aCons (mVar 1) (aCons (mVar 10) aNil))) aNil)))) aNil))) (mPeek 1))
  (oRet (fun _ => .leaf (.bl false)))
  oNx))
  oNx)
  (oSeq (oAsg (mA f_parts (aCons (mVar 1) aNil)) (gTp 2 (gsCons (gPut 12) (gsCons (gPut 13) gsNil))))
  (oSeq (oIf (mOr (mC cNe (mA fRepr (aCons (mA (fun ds => f_parts (permD [0] ds)) (aCons (mVar 1) aNil)) aNil)) (mA fRepr (aCons (mTup (aCons (mVar 12) (aCons (mVar 13) aNil))) aNil))) (mC cNe (mList (mLc (mSeq (mPeek 12)) [18] (gPut 18) tYesM (mA f_law_plain (aCons (mVar 18) (aCons (mVar 13) aNil))))) (mList (mListOf (mPeek 1)))))
  (oRet (fun _ => .leaf (.bl false)))
  oNx)
  (oSeq (oIf (mT (mA fAny (aCons (mList (mLc (mSeq (mTup (aCons (fun _ => .leaf (.int 2)) (aCons (fun _ => .leaf (.int 3)) (aCons (fun _ => .leaf (.int 5)) (aCons (fun _ => .leaf (.int 7)) (aCons (fun _ => .leaf (.int 11)) (aCons (fun _ => .leaf (.int 13)) aNil)))))))) [7] (gPut 7) tYesM (mA fAll (aCons (mList (mLc (mSeq (m2 opAdd (mPeek 12) (mTup (aCons (mVar 13) aNil)))) [18] (gPut 18) tYesM (mB (mC cEq (m2 opMod (mA fInt (aCons (mPeek 18) aNil)) (mPeek 7)) (fun _ => .leaf (.int 0)))))) aNil)))) aNil)))
  (oRet (fun _ => .leaf (.bl false)))
  oNx)
  (oRet (mB (mC cEq (mA fRepr (aCons (mPeek 1) aNil)) (mPeek 3))))))))))))))))))))))))
def f_law_one_right : List D → Tree D := mDef 2 19 b_law_one_right
/-! ### is_count, level 2 -/
abbrev s_is_count : Stmt := topS 14
abbrev N_is_count : List Str := ["value"]
theorem sc_is_count : FnScope N_is_count ["value"] (defScope s_is_count) := ⟨rfl, rfl, rfl, by decide +kernel, rfl, by decide +kernel, by decide +kernel⟩
def b_is_count : En → Tree Out := (oRet (mAndV (mA f_is_integer (aCons (mVar 0) aNil)) (mB (mC cGe (mPeek 0) (fun _ => .leaf (.int 0))))))
def f_is_count : List D → Tree D := mDef 1 1 b_is_count
/-! ### check_number, level 3 -/
abbrev s_check_number : Stmt := topS 17
abbrev N_check_number : List Str := ["value", "least", "most"]
theorem sc_check_number : FnScope N_check_number ["value", "least", "most"] (defScope s_check_number) := ⟨rfl, rfl, rfl, by decide +kernel, rfl, by decide +kernel, by decide +kernel⟩
def b_check_number : En → Tree Out := (oIf (mNot (mT (mA f_is_within (aCons (mVar 0) (aCons (mVar 1) (aCons (mVar 2) aNil))))))
  oFail
  oNx)
def f_check_number : List D → Tree D := mDef 3 3 b_check_number
/-! ### moved_of, level 4 -/
abbrev s_moved_of : Stmt := topS 46
abbrev N_moved_of : List Str := ["lot", "target", "many", "found", "one", "place"]
theorem sc_moved_of : FnScope N_moved_of ["lot", "target", "many"] (defScope s_moved_of) := ⟨rfl, rfl, rfl, by decide +kernel, rfl, by decide +kernel, by decide +kernel⟩
def b_moved_of : En → Tree Out := (oSeq (oOwn 3 (mRepL (mList (mLst (aCons (fun _ => .leaf (.tup [(.int 0), (.int 1)])) aNil))) (mPeek 2)))
  (oSeq (oFor (mZip (mVar 0) (mVar 1)) (gTp 2 (gsCons (gPut 4) (gsCons (gPut 5) gsNil)))
  (oStore 3 (mPeek 5) (mA f_add (aCons (m2 opIx (mPeek 3) (mPeek 5)) (aCons (mVar 4) aNil)))))
  (oRet (mA fTuple (aCons (mPeek 3) aNil)))))
def f_moved_of : List D → Tree D := mDef 3 6 b_moved_of
/-! ### moved, level 8 -/
abbrev s_moved : Stmt := topS 55
abbrev N_moved : List Str := ["lot", "target", "many", "one"]
theorem sc_moved : FnScope N_moved ["lot", "target", "many"] (defScope s_moved) := ⟨rfl, rfl, rfl, by decide +kernel, rfl, by decide +kernel, by decide +kernel⟩
def b_moved : En → Tree Out := (oSeq (oEx (mA f_check_lot (aCons (mVar 0) aNil)))
  (oSeq (oIf (mOr (mNot (mT (mA f_is_list (aCons (mVar 1) aNil)))) (mOr (mC cNe (mA fLen (aCons (mPeek 1) aNil)) (mA fLen (aCons (mPeek 0) aNil))) (mNot (mT (mA fAll (aCons (mList (mLc (mSeq (mPeek 1)) [3] (gPut 3) tYesM (mA f_is_count (aCons (mVar 3) aNil)))) aNil))))))
  oFail
  oNx)
  (oSeq (oEx (mA f_check_number (aCons (mVar 2) (aCons (fun _ => .leaf (.int 1)) (aCons (fun _ => .leaf (.int 8)) aNil)))))
  (oSeq (oIf (mNot (mT (mA fAll (aCons (mList (mLc (mSeq (mPeek 1)) [3] (gPut 3) tYesM (mB (mC cLt (mPeek 3) (mPeek 2))))) aNil))))
  oFail
  oNx)
  (oRet (mA f_moved_of (aCons (mVar 0) (aCons (mVar 1) (aCons (mVar 2) aNil)))))))))
def f_moved : List D → Tree D := mDef 3 4 b_moved
/-! ### _law_moved_right, level 9 -/
abbrev s_law_moved_right : Stmt := topS 74
abbrev N_law_moved_right : List Str := ["pot", "lot", "many", "target", "due", "worths", "place", "one", "at"]
theorem sc_law_moved_right : FnScope N_law_moved_right ["pot", "lot"] (defScope s_law_moved_right) := ⟨rfl, rfl, rfl, by decide +kernel, rfl, by decide +kernel, by decide +kernel⟩
def b_law_moved_right : En → Tree Out := (oSeq (oSet 2 (m2 opAdd (fun _ => .leaf (.int 1)) (mA f_law_draw (aCons (mVar 0) (aCons (fun _ => .leaf (.int 8)) aNil)))))
  (oSeq (oSet 3 (mList (mLc (mSeq (mPeek 1)) [6] (gPut 6) tYesM (mA f_law_draw (aCons (mVar 0) (aCons (mVar 2) aNil))))))
  (oSeq (oSet 4 (mA fTuple (aCons (mList (mLc (mRange1 (mPeek 2)) [6] (gPut 6) tYesM (mA f_law_total (aCons (mList (mLc (mZip (mPeek 1) (mPeek 3)) [7, 8] (gTp 2 (gsCons (gPut 7) (gsCons (gPut 8) gsNil))) (mC cEq (mPeek 8) (mPeek 6)) (mVar 7))) aNil)))) aNil)))
  (oSeq (oIf (mC cNe (mA fRepr (aCons (mList (mLst (aCons (mA f_moved (aCons (mVar 1) (aCons (mVar 3) (aCons (mVar 2) aNil)))) (aCons (mA (fun ds => f_moved (permD [2, 1, 0] ds)) (aCons (mVar 2) (aCons (mA fTuple (aCons (mPeek 3) aNil)) (aCons (mVar 1) aNil)))) aNil)))) aNil)) (mA fRepr (aCons (mList (mLst (aCons (mVar 4) (aCons (mVar 4) aNil)))) aNil)))
  (oRet (fun _ => .leaf (.bl false)))
  oNx)
  (oSeq (oSet 5 (mList (mLc (mRange1 (mPeek 2)) [6] (gPut 6) tYesM (mA f_law_fraction (aCons (mVar 0) (aCons (fun _ => .leaf (.int 9)) aNil))))))
  (oRet (mAndV (mA f_is_lot (aCons (mVar 4) aNil)) (mB (mC cEq (mA f_mean (aCons (mVar 4) (aCons (mVar 5) aNil))) (mA f_mean (aCons (mVar 1) (aCons (mList (mLc (mSeq (mPeek 3)) [8] (gPut 8) tYesM (m2 opIx (mPeek 5) (mPeek 8)))) aNil))))))))))))
def f_law_moved_right : List D → Tree D := mDef 2 9 b_law_moved_right
/-! ### _law_pick, level 2 -/
abbrev s_law_pick : Stmt := topS 62
abbrev N_law_pick : List Str := ["pot", "some"]
theorem sc_law_pick : FnScope N_law_pick ["pot", "some"] (defScope s_law_pick) := ⟨rfl, rfl, rfl, by decide +kernel, rfl, by decide +kernel, by decide +kernel⟩
def b_law_pick : En → Tree Out := (oRet (m2 opIx (mPeek 1) (mA f_law_draw (aCons (mVar 0) (aCons (mA fLen (aCons (mPeek 1) aNil)) aNil)))))
def f_law_pick : List D → Tree D := mDef 2 2 b_law_pick
/-! ### _law_right, level 12 -/
abbrev s_law_right : Stmt := topS 75
abbrev N_law_right : List Str := ["pot", "many", "more", "lots", "weights", "due", "one", "other", "told", "turn", "near", "place", "far", "at", "lot", "row"]
theorem sc_law_right : FnScope N_law_right ["pot"] (defScope s_law_right) := ⟨rfl, rfl, rfl, by decide +kernel, rfl, by decide +kernel, by decide +kernel⟩
def b_law_right : En → Tree Out := (oSeq (oAsg (mTup (aCons (m2 opAdd (fun _ => .leaf (.int 1)) (mA f_law_draw (aCons (mVar 0) (aCons (fun _ => .leaf (.int 8)) aNil)))) (aCons (m2 opAdd (fun _ => .leaf (.int 1)) (mA f_law_draw (aCons (mVar 0) (aCons (fun _ => .leaf (.int 6)) aNil)))) aNil))) (gTp 2 (gsCons (gPut 1) (gsCons (gPut 2) gsNil))))
  (oSeq (oSet 3 (mList (mLc (mRange1 (mPeek 2)) [9] (gPut 9) tYesM (mA f_law_lot (aCons (mVar 0) (aCons (mVar 1) (aCons (mA f_law_pick (aCons (mVar 0) (aCons (mList (mLst (aCons (fun _ => .leaf (.int 1)) (aCons (fun _ => .leaf (.int 6)) (aCons (fun _ => .leaf (.int 20)) aNil))))) aNil))) aNil)))))))
  (oSeq (oIf (mNot (mT (mA fAll (aCons (mList (mLc (mSeq (mCut (mPeek 3) (fun _ => .leaf none) (mPart (fun _ => .leaf (.int 3))))) [14] (gPut 14) tYesM (mAndV (mA f_law_one_right (aCons (mVar 0) (aCons (mVar 14) aNil))) (mA f_law_moved_right (aCons (mVar 0) (aCons (mVar 14) aNil)))))) aNil))))
  (oRet (fun _ => .leaf (.bl false)))
  oNx)
  (oSeq (oSet 4 (mA f_law_lot (aCons (mVar 0) (aCons (mVar 2) (aCons (fun _ => .leaf (.int 5)) aNil)))))
  (oSeq (oSet 5 (mA fTuple (aCons (mList (mLc (mRange1 (mPeek 1)) [11] (gPut 11) tYesM (mA f_law_mean (aCons (mVar 4) (aCons (mList (mLc (mSeq (mPeek 3)) [14] (gPut 14) tYesM (m2 opIx (mPeek 14) (mPeek 11)))) aNil))))) aNil)))
  (oSeq (oIf (mOr (mC cNe (mA fRepr (aCons (mList (mLst (aCons (mA f_mixed (aCons (mVar 4) (aCons (mVar 3) aNil))) (aCons (mA (fun ds => f_mixed (permD [1, 0] ds)) (aCons (mA fTuple (aCons (mPeek 3) aNil)) (aCons (mVar 4) aNil))) aNil)))) aNil)) (mA fRepr (aCons (mList (mLst (aCons (mVar 5) (aCons (mVar 5) aNil)))) aNil))) (mNot (mT (mA f_is_lot (aCons (mVar 5) aNil)))))
  (oRet (fun _ => .leaf (.bl false)))
  oNx)
  (oSeq (oAsg (mTup (aCons (m2 opIx (mPeek 3) (fun _ => .leaf (.int 0))) (aCons (mA f_law_lot (aCons (mVar 0) (aCons (m2 opAdd (fun _ => .leaf (.int 1)) (mA f_law_draw (aCons (mVar 0) (aCons (fun _ => .leaf (.int 8)) aNil)))) (aCons (fun _ => .leaf (.int 6)) aNil)))) aNil))) (gTp 2 (gsCons (gPut 6) (gsCons (gPut 7) gsNil))))
  (oSeq (oSet 5 (mList (mLc (mSeq (mPeek 6)) [10] (gPut 10) tYesM (mList (mLc (mSeq (mPeek 7)) [12] (gPut 12) tYesM (mA f_law_times (aCons (mVar 10) (aCons (mVar 12) aNil))))))))
  (oTold0 8 (mA f_beside (aCons (mVar 6) (aCons (mVar 7) aNil))) (mC cNe (mA fRepr (aCons (mList (mLst (aCons (mVar 8) (aCons (mA (fun ds => f_beside (permD [1, 0] ds)) (aCons (mVar 7) (aCons (mVar 6) aNil))) aNil)))) aNil)) (mA fRepr (aCons (mList (mLst (aCons (mVar 5) (aCons (mVar 5) aNil)))) aNil)))
  (oSeq (oIf (mOr (mC cNe (mA fRepr (aCons (mA f_beside (aCons (mVar 6) (aCons (mVar 7) aNil))) aNil)) (mA fRepr (aCons (mPeek 5) aNil))) (mC cNe (mList (mLc (mSeq (mPeek 5)) [15] (gPut 15) tYesM (mA f_law_total (aCons (mVar 15) aNil)))) (mList (mListOf (mPeek 6)))))
  (oRet (fun _ => .leaf (.bl false)))
  oNx)
  (oRet (mB (mC cEq (mList (mLc (mRange1 (mA fLen (aCons (mPeek 7) aNil))) [13] (gPut 13) tYesM (mA f_law_total (aCons (mList (mLc (mSeq (mPeek 5)) [15] (gPut 15) tYesM (m2 opIx (mPeek 15) (mPeek 13)))) aNil)))) (mList (mListOf (mPeek 7))))))))))))))))
def f_law_right : List D → Tree D := mDef 1 16 b_law_right
/-! ### _law_pot, level 1 -/
abbrev s_law_pot : Stmt := topS 60
abbrev N_law_pot : List Str := ["script", "k", "cell"]
theorem sc_law_pot : FnScope N_law_pot ["script", "k"] (defScope s_law_pot) := ⟨rfl, rfl, rfl, by decide +kernel, rfl, by decide +kernel, by decide +kernel⟩
def b_law_pot : En → Tree Out := (oSeq (oSet 2 (m2 opAdd (m2 opMul (fun _ => .leaf (.int 1171)) (mPeek 1)) (fun _ => .leaf (.int 9421))))
  (oSeq (oIf (mC cLt (mPeek 1) (mA fLen (aCons (mPeek 0) aNil)))
  (oSet 2 (mA fAbs (aCons (m2 opIx (mPeek 0) (mPeek 1)) aNil)))
  oNx)
  (oPot (mLst (aCons (mA fMax2 (aCons (fun _ => .leaf (.int 0)) (aCons (m2 opSub (mPeek 2) (m2 opPow (fun _ => .leaf (.int 10)) (fun _ => .leaf (.int 18)))) aNil))) (aCons (m2 opAdd (m2 opMod (mA fInt (aCons (m2 opAdd (m2 opAdd (m2 opMul (m2 opMod (mA fInt (aCons (mPeek 2) aNil)) (fun _ => .leaf (.int 2147483549))) (fun _ => .leaf (.int 40014))) (m2 opMul (fun _ => .leaf (.int 9421)) (mPeek 1))) (fun _ => .leaf (.int 61))) aNil)) (fun _ => .leaf (.int 2147483563))) (fun _ => .leaf (.int 1))) aNil))))))
def f_law_pot : List D → Tree D := mDef 2 3 b_law_pot
/-! ### law, level 13 -/
abbrev s_law : Stmt := topS 76
abbrev N_law : List Str := ["script", "k"]
theorem sc_law : FnScope N_law ["script"] (defScope s_law) := ⟨rfl, rfl, rfl, by decide +kernel, rfl, by decide +kernel, by decide +kernel⟩
def b_law : En → Tree Out := (oRet (mA fAll (aCons (mList (mLc (mRange1 (mA fMax2 (aCons (fun _ => .leaf (.int 1)) (aCons (mA fMin2 (aCons (fun _ => .leaf (.int 2)) (aCons (mA fLen (aCons (mPeek 0) aNil)) aNil))) aNil)))) [1] (gPut 1) tYesM (mA f_law_right (aCons (mA f_law_pot (aCons (mVar 0) (aCons (mVar 1) aNil))) aNil)))) aNil)))
def f_law : List D → Tree D := mDef 1 2 b_law
abbrev s_law_heard : Stmt := topS 72
abbrev N_law_heard : List Str := ["call", "told"]
theorem sc_law_heard : FnScope N_law_heard ["call"] (defScope s_law_heard) := ⟨rfl, rfl, rfl, by decide +kernel, rfl, by decide +kernel, by decide +kernel⟩
def TC_law_one_right : Addr := (TBC.getD 0 (0, 0, "")).1
def TP_law_one_right : Addr := (TBC.getD 0 (0, 0, "")).2.1
section
variable {P : Program} {w : World} {K : PySem.W.Frag} {mg : Str → Option Value} {base : Heap}
theorem ok_is_integer (nb : Nb mg) : ∀ f fd, Fun K "is_integer" "is_integer" s_is_integer f fd → FnOk P w K mg base CX0 1 f fd ["value"] (spF K f_is_integer) := fun f fd F => def_ok (m := b_is_integer) 1 1 F sc_is_integer rfl rfl fun cdv A outer s H E hr =>
  (ss_one (s_ret (se_and (se_bi cr_isi f1_isi (by rfl) nb.b_isinstance (by decide +kernel) (spa_cons (sp_var (pv 0)) (spa_cons (SE.sp (se_ty (by rfl) nb.b_int (by decide +kernel))) spa_nil))) (se_one (se_not (se_bi cr_isi f1_isi (by rfl) nb.b_isinstance (by decide +kernel) (spa_cons (sp_var (pv 0)) (spa_cons (SE.sp (se_ty (by rfl) nb.b_bool (by decide +kernel))) spa_nil))))))))
theorem ok_divisor (nb : Nb mg) : ∀ f fd, Fun K "divisor" "divisor" s_divisor f fd → FnOk P w K mg base CX0 1 f fd ["one", "late"] (spF K f_divisor) := fun f fd F => def_ok (m := b_divisor) 2 2 F sc_divisor rfl rfl fun cdv A outer s H E hr =>
  (ss_cons (s_while FUEL (fun hc hb => ps_while PassesOwn.never hc hb) (st_cmp op_gt c2_int (sp_var (pv 1)) (SE.sp se_int) (nomark _))
  (ss_one (s_par (ps_par (by rfl) sc_divisor.nd rfl rfl (by decide) rfl rfl (SA.pa (sa_cons (se_var (pv 1)) (sa_cons (se_op op_mod o2_mod (SE.sp (se_bt call_int1 f1_int (by rfl) nb.b_int (by decide +kernel) (spa_cons (sp_var (pv 0)) spa_nil))) (sp_var (pv 1))) sa_nil))) (by rfl)) (fun _ _ _ h => h))))
  (ss_one (s_ret (se_var (pv 0)))))
theorem ok_is_fraction_of (r_is_integer : CalR P w K mg base 1 "is_integer" f_is_integer) (r_divisor : CalR P w K mg base 1 "divisor" f_divisor) (nb : Nb mg) : ∀ f fd, Fun K "is_fraction_of" "is_fraction_of" s_is_fraction_of f fd → FnOk P w K mg base CX0 2 f fd ["value"] (spF K f_is_fraction_of) := fun f fd F => def_ok (m := b_is_fraction_of) 1 1 F sc_is_fraction_of rfl rfl fun cdv A outer s H E hr =>
  (ss_cons (s_if (SW.st (sw_or (st_not (st_val (SE.sp (se_bi cr_isi f1_isi (by rfl) nb.b_isinstance (by decide +kernel) (spa_cons (sp_var (pv 0)) (spa_cons (SE.sp (se_ty (by rfl) nb.b_tuple (by decide +kernel))) spa_nil)))))) (sw_or (st_cmp (op_neD hr.units) c2_ne (SE.sp (se_bi cr_len f1_len (by rfl) nb.b_len (by decide +kernel) (spa_cons (sp_var (pv 0)) spa_nil))) (SE.sp se_int) (nomark _)) (sw_or (st_not (st_val (SE.sp (se_c r_is_integer hr (by decide) (by rfl) (sa_cons (se_ix ix_seq o2_ix (sp_var (pv 0)) (SE.sp se_int) (fun _ _ => rfl)) sa_nil))))) (sw_or1 (st_not (st_val (SE.sp (se_c r_is_integer hr (by decide) (by rfl) (sa_cons (se_ix ix_seq o2_ix (sp_var (pv 0)) (SE.sp se_int) (fun _ _ => rfl)) sa_nil))))))))))
  (ss_one (s_ret se_bl))
  ss_nil)
  (ss_one (s_ret (se_and (se_cmp op_ge c2_int (SE.sp (se_ix ix_seq o2_ix (sp_var (pv 0)) (SE.sp se_int) (fun _ _ => rfl))) (SE.sp se_int) (nomark _)) (se_one (se_cmp (op_eqD hr.units) c2_eq (SE.sp (se_c r_divisor hr (by decide) (by rfl) (sa_cons (se_bi call_abs f1_abs (by rfl) nb.b_abs (by decide +kernel) (spa_cons (SE.sp (se_ix ix_seq o2_ix (sp_var (pv 0)) (SE.sp se_int) (fun _ _ => rfl))) spa_nil)) (sa_cons (se_ix ix_seq o2_ix (sp_var (pv 0)) (SE.sp se_int) (fun _ _ => rfl)) sa_nil)))) (SE.sp se_int) (nomark _)))))))
theorem ok_reduced (r_divisor : CalR P w K mg base 1 "divisor" f_divisor) (nb : Nb mg) : ∀ f fd, Fun K "reduced" "reduced" s_reduced f fd → FnOk P w K mg base CX0 2 f fd ["top", "bottom"] (spF K f_reduced) := fun f fd F => def_ok (m := b_reduced) 2 3 F sc_reduced rfl rfl fun cdv A outer s H E hr =>
  (ss_cons (s_if (st_cmp op_lt c2_int (sp_var (pv 1)) (SE.sp se_int) (nomark _))
  (ss_one (s_par (ps_par (by rfl) sc_reduced.nd rfl rfl (by decide) rfl rfl (SA.pa (sa_cons (se_op op_sub o2_sub (SE.sp se_int) (sp_var (pv 0))) (sa_cons (se_op op_sub o2_sub (SE.sp se_int) (sp_var (pv 1))) sa_nil))) (by rfl)) (fun _ _ _ h => h)))
  ss_nil)
  (ss_cons (s_asg (ps_set (i := 2) sc_reduced.nd rfl (by first | exact .inl rfl | exact .inr rfl) (SE.pe (se_c r_divisor hr (by decide) (by rfl) (sa_cons (se_bi call_abs f1_abs (by rfl) nb.b_abs (by decide +kernel) (spa_cons (sp_var (pv 0)) spa_nil)) (sa_cons (se_var (pv 1)) sa_nil))))) (fun _ _ _ h => h))
  (ss_one (s_ret (se_tup (sa_cons (se_op op_fdivW o2_div (sp_var (pv 0)) (sp_var (pv 2))) (sa_cons (se_op op_fdivW o2_div (sp_var (pv 1)) (sp_var (pv 2))) sa_nil)))))))
theorem ok_add (r_reduced : CalR P w K mg base 2 "reduced" f_reduced) : ∀ f fd, Fun K "add" "add" s_add f fd → FnOk P w K mg base CX0 3 f fd ["one", "late"] (spF K f_add) := fun f fd F => def_ok (m := b_add) 2 2 F sc_add rfl rfl fun cdv A outer s H E hr =>
  (ss_one (s_ret (se_c r_reduced hr (by decide) (by rfl) (sa_cons (se_op or_add o2_add (SE.sp (se_op or_mul o2_mul (SE.sp (se_ix ix_seq o2_ix (sp_var (pv 0)) (SE.sp se_int) (fun _ _ => rfl))) (SE.sp (se_ix ix_seq o2_ix (sp_var (pv 1)) (SE.sp se_int) (fun _ _ => rfl))))) (SE.sp (se_op or_mul o2_mul (SE.sp (se_ix ix_seq o2_ix (sp_var (pv 1)) (SE.sp se_int) (fun _ _ => rfl))) (SE.sp (se_ix ix_seq o2_ix (sp_var (pv 0)) (SE.sp se_int) (fun _ _ => rfl)))))) (sa_cons (se_op or_mul o2_mul (SE.sp (se_ix ix_seq o2_ix (sp_var (pv 0)) (SE.sp se_int) (fun _ _ => rfl))) (SE.sp (se_ix ix_seq o2_ix (sp_var (pv 1)) (SE.sp se_int) (fun _ _ => rfl)))) sa_nil)))))
theorem ok_total (r_add : CalR P w K mg base 3 "add" f_add) (k_NOUGHT : ConR K mg "NOUGHT" (.tup [(.int 0), (.int 1)])) : ∀ f fd, Fun K "total" "total" s_total f fd → FnOk P w K mg base CX0 4 f fd ["some"] (spF K f_total) := fun f fd F => def_ok (m := b_total) 1 3 F sc_total rfl rfl fun cdv A outer s H E hr =>
  (ss_cons (s_asg (ps_set (i := 1) sc_total.nd rfl (by first | exact .inl rfl | exact .inr rfl) (SE.pe (se_con k_NOUGHT (by rfl)))) (fun _ _ _ h => h))
  (ss_cons (s_for PassesOwn.never rfl (si_seq (se_var (pv 0))) (sg_name (pg_name (i := 2) sc_total.nd rfl (by first | exact .inl rfl | exact .inr rfl)))
  (ss_one (s_asg (ps_set (i := 1) sc_total.nd rfl (by first | exact .inl rfl | exact .inr rfl) (SE.pe (se_c r_add hr (by decide) (by rfl) (sa_cons (se_var (pv 1)) (sa_cons (se_var (pv 2)) sa_nil))))) (fun _ _ _ h => h))))
  (ss_one (s_ret (se_var (pv 1))))))
theorem ok_is_lot_of (r_is_fraction_of : CalR P w K mg base 2 "is_fraction_of" f_is_fraction_of) (r_total : CalR P w K mg base 4 "total" f_total) (k_MOST_PLACES : ConR K mg "MOST_PLACES" (.int 8)) (k_ONE : ConR K mg "ONE" (.tup [(.int 1), (.int 1)])) (nb : Nb mg) : ∀ f fd, Fun K "is_lot_of" "is_lot_of" s_is_lot_of f fd → FnOk P w K mg base CX0 5 f fd ["value"] (spF K f_is_lot_of) := fun f fd F => def_ok (m := b_is_lot_of) 1 2 F sc_is_lot_of rfl rfl fun cdv A outer s H E hr =>
  (ss_cons (s_if (SW.st (sw_or (st_not (st_val (SE.sp (se_bi cr_isi f1_isi (by rfl) nb.b_isinstance (by decide +kernel) (spa_cons (sp_var (pv 0)) (spa_cons (SE.sp (se_ty (by rfl) nb.b_tuple (by decide +kernel))) spa_nil)))))) (sw_or1 (st_not (st_chain op_le op_le c2_int c2_int (SE.sp se_int) (SE.sp (se_bi cr_len f1_len (by rfl) nb.b_len (by decide +kernel) (spa_cons (sp_var (pv 0)) spa_nil))) (SE.sp (se_con k_MOST_PLACES (by rfl))))))))
  (ss_one (s_ret se_bl))
  ss_nil)
  (ss_cons (s_if (st_not (st_val (SE.sp (se_bi (cr_all rfl) f1_all (by rfl) nb.b_all (by decide +kernel) (spa_cons (SE.sp (SL.se (sl_lc (own := [("one", 1)]) rfl sc_is_lot_of.nd (sip_seq (sp_var (pv 0))) (blkOk_by (N := N_is_lot_of) (sc := (defScope s_is_lot_of)) (by decide +kernel)) (fun _ _ _ _ _ => (sg_name (pg_name (i := 1) sc_is_lot_of.nd rfl (by first | exact .inl rfl | exact .inr rfl)))) (fun _ _ _ _ _ => sts_nil) (fun _ _ _ _ _ => (se_and (se_c r_is_fraction_of hr (by decide) (by rfl) (sa_cons (se_var (pv 1)) sa_nil)) (se_one (se_cmp op_ge c2_int (SE.sp (se_ix ix_seq o2_ix (sp_var (pv 1)) (SE.sp se_int) (fun _ _ => rfl))) (SE.sp se_int) (nomark _))))) (by decide)))) spa_nil)))))
  (ss_one (s_ret se_bl))
  ss_nil)
  (ss_one (s_ret (se_cmp (op_eqD hr.units) c2_eq (SE.sp (se_c r_total hr (by decide) (by rfl) (sa_cons (se_var (pv 0)) sa_nil))) (SE.sp (se_con k_ONE (by rfl))) (nomark _))))))
theorem ok_is_short (r_is_fraction_of : CalR P w K mg base 2 "is_fraction_of" f_is_fraction_of) (k_MOST_DIGITS : ConR K mg "MOST_DIGITS" (.int 1000000000000)) (nb : Nb mg) : ∀ f fd, Fun K "is_short" "is_short" s_is_short f fd → FnOk P w K mg base CX0 3 f fd ["value"] (spF K f_is_short) := fun f fd F => def_ok (m := b_is_short) 1 1 F sc_is_short rfl rfl fun cdv A outer s H E hr =>
  (ss_one (s_ret (se_and (se_c r_is_fraction_of hr (by decide) (by rfl) (sa_cons (se_var (pv 0)) sa_nil)) (se_and (se_cmp op_lt c2_int (SE.sp (se_bi call_abs f1_abs (by rfl) nb.b_abs (by decide +kernel) (spa_cons (SE.sp (se_ix ix_seq o2_ix (sp_var (pv 0)) (SE.sp se_int) (fun _ _ => rfl))) spa_nil))) (SE.sp (se_con k_MOST_DIGITS (by rfl))) (nomark _)) (se_one (se_cmp op_lt c2_int (SE.sp (se_ix ix_seq o2_ix (sp_var (pv 0)) (SE.sp se_int) (fun _ _ => rfl))) (SE.sp (se_con k_MOST_DIGITS (by rfl))) (nomark _)))))))
theorem ok_is_short_lot (r_is_lot_of : CalR P w K mg base 5 "is_lot_of" f_is_lot_of) (r_is_short : CalR P w K mg base 3 "is_short" f_is_short) (nb : Nb mg) : ∀ f fd, Fun K "is_short_lot" "is_short_lot" s_is_short_lot f fd → FnOk P w K mg base CX0 6 f fd ["value"] (spF K f_is_short_lot) := fun f fd F => def_ok (m := b_is_short_lot) 1 2 F sc_is_short_lot rfl rfl fun cdv A outer s H E hr =>
  (ss_one (s_ret (se_and (se_c r_is_lot_of hr (by decide) (by rfl) (sa_cons (se_var (pv 0)) sa_nil)) (se_one (se_bi (cr_all rfl) f1_all (by rfl) nb.b_all (by decide +kernel) (spa_cons (SE.sp (SL.se (sl_lc (own := [("one", 1)]) rfl sc_is_short_lot.nd (sip_seq (sp_var (pv 0))) (blkOk_by (N := N_is_short_lot) (sc := (defScope s_is_short_lot)) (by decide +kernel)) (fun _ _ _ _ _ => (sg_name (pg_name (i := 1) sc_is_short_lot.nd rfl (by first | exact .inl rfl | exact .inr rfl)))) (fun _ _ _ _ _ => sts_nil) (fun _ _ _ _ _ => (se_c r_is_short hr (by decide) (by rfl) (sa_cons (se_var (pv 1)) sa_nil))) (by decide)))) spa_nil))))))
theorem ok_check_lot (r_is_short_lot : CalR P w K mg base 6 "is_short_lot" f_is_short_lot) : ∀ f fd, Fun K "check_lot" "check_lot" s_check_lot f fd → FnOk P w K mg base CX0 7 f fd ["value"] (spF K f_check_lot) := fun f fd F => def_ok (m := b_check_lot) 1 1 F sc_check_lot rfl rfl fun cdv A outer s H E hr =>
  (ss_one (s_if (st_not (st_val (SE.sp (se_c r_is_short_lot hr (by decide) (by rfl) (sa_cons (se_var (pv 0)) sa_nil)))))
  (ss_one s_never)
  ss_nil))
theorem ok_check_two (c_check_lot : CalG P w K mg base 7 "check_lot" f_check_lot) : ∀ f fd, Fun K "check_two" "check_two" s_check_two f fd → FnG P w K mg base 8 f fd ["lot", "other"] (spF K f_check_two) := fun f fd F => def_okG (m := b_check_two) 2 2 F sc_check_two rfl rfl fun cdv A outer s H E hcv hG hr =>
  (ss_cons (s_expr (se_cG c_check_lot hG hr (by decide) (by rfl) (sa_cons (se_var (pv 0)) sa_nil)))
  (ss_one (s_expr (se_cG c_check_lot hG hr (by decide) (by rfl) (sa_cons (se_var (pv 1)) sa_nil)))))
theorem ok_multiply (c_reduced : CalG P w K mg base 2 "reduced" f_reduced) : ∀ f fd, Fun K "multiply" "multiply" s_multiply f fd → FnG P w K mg base 3 f fd ["one", "late"] (spF K f_multiply) := fun f fd F => def_okG (m := b_multiply) 2 2 F sc_multiply rfl rfl fun cdv A outer s H E hcv hG hr =>
  (ss_one (s_ret (se_cG c_reduced hG hr (by decide) (by rfl) (sa_cons (se_op or_mul o2_mul (SE.sp (se_ix ix_seq o2_ix (sp_var (pv 0)) (SE.sp se_int) (fun _ _ => rfl))) (SE.sp (se_ix ix_seq o2_ix (sp_var (pv 1)) (SE.sp se_int) (fun _ _ => rfl)))) (sa_cons (se_op or_mul o2_mul (SE.sp (se_ix ix_seq o2_ix (sp_var (pv 0)) (SE.sp se_int) (fun _ _ => rfl))) (SE.sp (se_ix ix_seq o2_ix (sp_var (pv 1)) (SE.sp se_int) (fun _ _ => rfl)))) sa_nil)))))
theorem ok_beside (c_check_two : CalG P w K mg base 8 "check_two" f_check_two) (c_multiply : CalG P w K mg base 3 "multiply" f_multiply) : ∀ f fd, Fun K "beside" "beside" s_beside f fd → FnG P w K mg base 9 f fd ["lot", "other"] (spN K 1 f_beside) := fun f fd F => def_okN (m := b_beside) 2 4 F sc_beside rfl rfl fun cdv A outer s H E hcv hG hr =>
  (ssn_cons (s_expr (se_cG c_check_two hG hr (by decide) (by rfl) (sa_cons (se_var (pv 0)) (sa_cons (se_var (pv 1)) sa_nil))))
  (ssn_ret (SLN.sen (sln_lc (own := [("one", 2)]) rfl sc_beside.nd (sip_seq (sp_var (pv 0))) (blkOk_by (N := N_beside) (sc := (defScope s_beside)) (by decide +kernel)) (fun _ _ _ _ _ => (sg_name (pg_name (i := 2) sc_beside.nd rfl (by first | exact .inl rfl | exact .inr rfl)))) (fun _ _ _ _ _ => sts_nil) (fun _ _ _ _ _ => (SL.sen (sl_lc (own := [("late", 3)]) rfl sc_beside.nd (sip_seq (sp_var (pv 1))) (blkOk_by (N := N_beside) (sc := (relS _ (defScope s_beside))) (by decide +kernel)) (fun _ _ _ _ _ => (sg_name (pg_name (i := 3) sc_beside.nd rfl (by first | exact .inl rfl | exact .inr rfl)))) (fun _ _ _ _ _ => sts_nil) (fun _ _ _ _ _ => (se_cG c_multiply hG hr (by decide) (by rfl) (sa_cons (se_var (pv 2)) (sa_cons (se_var (pv 3)) sa_nil)))) (by decide)))) (by decide)))))
theorem ok_law_plain (nb : Nb mg) : ∀ f fd, Fun K "_law_plain" "_law_plain" s_law_plain f fd → FnG P w K mg base 1 f fd ["top", "bottom"] (spF K f_law_plain) := fun f fd F => def_okG (m := b_law_plain) 2 5 F sc_law_plain rfl rfl fun cdv A outer s H E hcv hG hr =>
  (ss_cons (s_par (ps_par (by rfl) sc_law_plain.nd rfl rfl (by decide) rfl rfl (SA.pa (sa_cons (se_bi call_abs f1_abs (by rfl) nb.b_abs (by decide +kernel) (spa_cons (sp_var (pv 0)) spa_nil)) (sa_cons (se_bi call_abs f1_abs (by rfl) nb.b_abs (by decide +kernel) (spa_cons (sp_var (pv 1)) spa_nil)) sa_nil))) (by rfl)) (fun _ _ _ h => h))
  (ss_cons (s_while FUEL (fun hc hb => ps_while PassesOwn.never hc hb) (st_cmp (op_neD hr.units) c2_ne (sp_var (pv 3)) (SE.sp se_int) (nomark _))
  (ss_one (s_par (ps_par (by rfl) sc_law_plain.nd rfl rfl (by decide) rfl rfl (SA.pa (sa_cons (se_var (pv 3)) (sa_cons (se_op op_mod o2_mod (SE.sp (se_bt call_int1 f1_int (by rfl) nb.b_int (by decide +kernel) (spa_cons (sp_var (pv 2)) spa_nil))) (sp_var (pv 3))) sa_nil))) (by rfl)) (fun _ _ _ h => h))))
  (ss_cons (s_asg (ps_set (i := 4) sc_law_plain.nd rfl (by first | exact .inl rfl | exact .inr rfl) (SE.pe (se_if (st_cmp op_gt c2_int (sp_var (pv 1)) (SE.sp se_int) (nomark _)) se_int (se_neg (SE.sp se_int))))) (fun _ _ _ h => h))
  (ss_one (s_ret (se_tup (sa_cons (se_op op_fdivW o2_div (SE.sp (se_op or_mul o2_mul (sp_var (pv 4)) (sp_var (pv 0)))) (sp_var (pv 2))) (sa_cons (se_op op_fdivW o2_div (SE.sp (se_op or_mul o2_mul (sp_var (pv 4)) (sp_var (pv 1)))) (sp_var (pv 2))) sa_nil))))))))
theorem ok_law_plus (c_law_plain : CalG P w K mg base 1 "_law_plain" f_law_plain) : ∀ f fd, Fun K "_law_plus" "_law_plus" s_law_plus f fd → FnG P w K mg base 2 f fd ["one", "late"] (spF K f_law_plus) := fun f fd F => def_okG (m := b_law_plus) 2 2 F sc_law_plus rfl rfl fun cdv A outer s H E hcv hG hr =>
  (ss_one (s_ret (se_cG c_law_plain hG hr (by decide) (by rfl) (sa_cons (se_op or_add o2_add (SE.sp (se_op or_mul o2_mul (SE.sp (se_ix ix_seq o2_ix (sp_var (pv 0)) (SE.sp se_int) (fun _ _ => rfl))) (SE.sp (se_ix ix_seq o2_ix (sp_var (pv 1)) (SE.sp se_int) (fun _ _ => rfl))))) (SE.sp (se_op or_mul o2_mul (SE.sp (se_ix ix_seq o2_ix (sp_var (pv 1)) (SE.sp se_int) (fun _ _ => rfl))) (SE.sp (se_ix ix_seq o2_ix (sp_var (pv 0)) (SE.sp se_int) (fun _ _ => rfl)))))) (sa_cons (se_op or_mul o2_mul (SE.sp (se_ix ix_seq o2_ix (sp_var (pv 0)) (SE.sp se_int) (fun _ _ => rfl))) (SE.sp (se_ix ix_seq o2_ix (sp_var (pv 1)) (SE.sp se_int) (fun _ _ => rfl)))) sa_nil)))))
theorem ok_law_total (c_law_plus : CalG P w K mg base 2 "_law_plus" f_law_plus) : ∀ f fd, Fun K "_law_total" "_law_total" s_law_total f fd → FnG P w K mg base 3 f fd ["some"] (spF K f_law_total) := fun f fd F => def_okG (m := b_law_total) 1 3 F sc_law_total rfl rfl fun cdv A outer s H E hcv hG hr =>
  (ss_cons (s_asg (ps_set (i := 1) sc_law_total.nd rfl (by first | exact .inl rfl | exact .inr rfl) (SE.pe (se_tup (sa_cons se_int (sa_cons se_int sa_nil))))) (fun _ _ _ h => h))
  (ss_cons (s_for PassesOwn.never rfl (si_seq (se_var (pv 0))) (sg_name (pg_name (i := 2) sc_law_total.nd rfl (by first | exact .inl rfl | exact .inr rfl)))
  (ss_one (s_asg (ps_set (i := 1) sc_law_total.nd rfl (by first | exact .inl rfl | exact .inr rfl) (SE.pe (se_cG c_law_plus hG hr (by decide) (by rfl) (sa_cons (se_var (pv 1)) (sa_cons (se_var (pv 2)) sa_nil))))) (fun _ _ _ h => h))))
  (ss_one (s_ret (se_var (pv 1))))))
theorem ok_law_times (c_law_plain : CalG P w K mg base 1 "_law_plain" f_law_plain) : ∀ f fd, Fun K "_law_times" "_law_times" s_law_times f fd → FnG P w K mg base 2 f fd ["one", "late"] (spF K f_law_times) := fun f fd F => def_okG (m := b_law_times) 2 2 F sc_law_times rfl rfl fun cdv A outer s H E hcv hG hr =>
  (ss_one (s_ret (se_cG c_law_plain hG hr (by decide) (by rfl) (sa_cons (se_op or_mul o2_mul (SE.sp (se_ix ix_seq o2_ix (sp_var (pv 0)) (SE.sp se_int) (fun _ _ => rfl))) (SE.sp (se_ix ix_seq o2_ix (sp_var (pv 1)) (SE.sp se_int) (fun _ _ => rfl)))) (sa_cons (se_op or_mul o2_mul (SE.sp (se_ix ix_seq o2_ix (sp_var (pv 0)) (SE.sp se_int) (fun _ _ => rfl))) (SE.sp (se_ix ix_seq o2_ix (sp_var (pv 1)) (SE.sp se_int) (fun _ _ => rfl)))) sa_nil)))))
theorem ok_law_draw (nb : Nb mg) : ∀ f fd, Fun K "_law_draw" "_law_draw" s_law_draw f fd → FnG P w K mg base 1 f fd ["pot", "many"] (spF K f_law_draw) := fun f fd F => by
  refine FnG.of (F.ok sc_law_draw (fun vs H Q E h => fDraw_len vs H Q E h) (fun cdv A outer s H vs Q E hr h => ?_))
  obtain ⟨a, n, p, q, rfl, hp, h0, h1, h2, h3, h4, fin⟩ := fDraw_of h
  refine ⟨_, pss_cons (ps_if (pt_cmpR op_gt (pe_ix ix_list (pv 0) pe_int (fun _ _ => rfl)) pe_int (nomark _))
      (pss_cons (ps_asg (pe_callB call_divmodW (by rfl) nb.b_divmod (by decide +kernel) (pa_cons (pe_ix ix_list (pv 0) pe_int (fun _ _ => rfl)) (pa_cons (pv 1) pa_nil)))
        (pg_tup rfl (pgs_cons (pg_sub (pv 0) pe_int set_list) (pgs_cons (pg_name (i := 2) sc_law_draw.nd rfl (.inl rfl)) pgs_nil)))) (pss_one (ps_ret (pv 2)))) pss_nil)
    (pss_cons (ps_asg (pe_op op_mod (pe_callTy call_int1 (by rfl) nb.b_int (by decide +kernel) (pa_cons (pe_op op_add (pe_op op_mul (pe_ix ix_list (pv 0) pe_int (fun _ _ => rfl)) pe_int) pe_int) pa_nil)) pe_int) (pg_sub (pv 0) pe_int set_list))
    (pss_one (ps_ret (pe_op op_mod (pe_callTy call_int1 (by rfl) nb.b_int (by decide +kernel) (pa_cons (pe_op op_fdiv (pe_op op_mod (pe_callTy call_int1 (by rfl) nb.b_int (by decide +kernel) (pa_cons (pe_op op_mul (pe_ix ix_list (pv 0) pe_int (fun _ _ => rfl)) (pe_ix ix_list (pv 0) pe_int (fun _ _ => rfl))) pa_nil)) pe_int) pe_int) pa_nil)) (pv 1))))), ?_⟩
  refine ⟨.ref a, rfl, a, _, 0, .int p, rfl, rfl, .of hp, rfl, p, 0, rfl, rfl, _, rfl, ite2 (fun e => ?_) (fun e => ?_)⟩
  · have hpos : 0 < p := of_decide_eq_true e
    refine ⟨.ref a, rfl, a, _, 0, .int p, rfl, rfl, .of hp, rfl, .int n, rfl, p, n, rfl, ⟨h3, R.noPy h4⟩, fun T nT => ?_⟩
    have ne : a ≠ T := ne_of_none hp nT
    refine ⟨T, _, rfl, .of upd_same, rfl, .int (p / n), _, rfl, ⟨.ref a, rfl, a, _, 0, 0, rfl, rfl, by rw [upd_ne ne]; exact hp, rfl, ?_⟩⟩
    refine ⟨.int (p % n), [], rfl, ⟨rfl, .int (p % n), rfl, ?_⟩⟩
    exact fin _ (p / n) q (p % n) (Int.ediv_nonneg h0 (by omega)) h1 h2 (Int.emod_nonneg _ (by omega)) (Int.emod_lt_of_pos _ h3) ⟨T, _, .inl ⟨rfl, nT⟩⟩
  · refine ⟨.ref a, rfl, a, _, 1, .int q, rfl, rfl, .of hp, rfl, q, _, rfl, rfl, .inl ⟨by omega, by omega⟩, _, _, rfl, rfl, .inl ⟨_, rfl, _, _, rfl, rfl, (by show (0 : Int) < _; decide), .ref a, rfl, a, _, 1, 1, rfl, rfl, hp, rfl, ?_⟩⟩
    rw [show ((fun i j => V.int (i % j)) (q * 39373 + 1181) 2147483587 : V) = V.int ((q * 39373 + 1181) % 2147483587) from rfl]
    generalize hq : (q * 39373 + 1181) % 2147483587 = q'
    have b1 : 0 ≤ q' := by rw [← hq]; exact Int.emod_nonneg _ (by decide)
    have b2 : q' < 4294967296 := by rw [← hq]; exact Int.lt_trans (Int.emod_lt_of_pos _ (by decide)) (by decide)
    refine ⟨.ref a, rfl, a, _, 1, .int q', rfl, rfl, .of upd_same, rfl, .ref a, rfl, a, _, 1, .int q', rfl, rfl, .of upd_same, rfl, q', q', rfl, rfl, .inl ⟨by omega, by omega⟩, .inl ⟨_, rfl, _, _, rfl, rfl, (by show (0 : Int) < _; decide), _, _, rfl, rfl, ⟨by decide, by decide⟩, .inl ⟨_, rfl, .int n, rfl, _, n, rfl, rfl, h3, ?_⟩⟩⟩
    exact fin _ p q' _ h0 b1 b2 (Int.emod_nonneg _ (by omega)) (Int.emod_lt_of_pos _ h3) ⟨a, .lst [], .inr rfl⟩

theorem ok_law_lot (c_law_draw : CalG P w K mg base 1 "_law_draw" f_law_draw) (c_law_plain : CalG P w K mg base 1 "_law_plain" f_law_plain) (nb : Nb mg) : ∀ f fd, Fun K "_law_lot" "_law_lot" s_law_lot f fd → FnG P w K mg base 2 f fd ["pot", "many", "most"] (spF K f_law_lot) := fun f fd F => def_okG (m := b_law_lot) 3 7 F sc_law_lot rfl rfl fun cdv A outer s H E hcv hG hr =>
  (ss_cons (s_own (ps_set (i := 3) sc_law_lot.nd rfl (by first | exact .inl rfl | exact .inr rfl) (SL.pe (sl_lc (own := [("place", 5)]) rfl sc_law_lot.nd (SI.sip (si_range1 (by rfl) nb.b_range (sp_var (pv 1)))) (blkOk_by (N := N_law_lot) (sc := (defScope s_law_lot)) (by decide +kernel)) (fun _ _ _ _ _ => (sg_name (pg_name (i := 5) sc_law_lot.nd rfl (by first | exact .inl rfl | exact .inr rfl)))) (fun _ _ _ _ _ => sts_nil) (fun _ _ _ _ _ => (se_if (st_cmp op_gt c2_int (SE.sp (se_cG c_law_draw hG hr (by decide) (by rfl) (sa_cons (se_var (pv 0)) (sa_cons se_int sa_nil)))) (SE.sp se_int) (nomark _)) (se_cG c_law_draw hG hr (by decide) (by rfl) (sa_cons (se_var (pv 0)) (sa_cons (se_op or_add o2_add (sp_var (pv 2)) (SE.sp se_int)) sa_nil))) se_int)) (by decide)))) (fun _ _ _ h => h))
  (ss_cons (s_asg (ps_set (i := 4) sc_law_lot.nd rfl (by first | exact .inl rfl | exact .inr rfl) (SE.pe (se_cG c_law_draw hG hr (by decide) (by rfl) (sa_cons (se_var (pv 0)) (sa_cons (se_var (pv 1)) sa_nil))))) (fun _ _ _ h => h))
  (ss_cons (s_store (se_op or_add o2_add (SE.sp (se_ix ix_seq o2_ix (sp_var (pv 3)) (sp_var (pv 4)) (fun _ _ => rfl))) (SE.sp se_int)) (pg_sub (pv 3) (SP.pe (sp_var (pv 4))) set_list))
  (ss_one (s_ret (se_bt call_tuple_of f1_tuple (by rfl) nb.b_tuple (by decide +kernel) (spa_cons (SE.sp (SL.se (sl_lc (own := [("one", 6)]) rfl sc_law_lot.nd (sip_seq (sp_var (pv 3))) (blkOk_by (N := N_law_lot) (sc := (defScope s_law_lot)) (by decide +kernel)) (fun _ _ _ _ _ => (sg_name (pg_name (i := 6) sc_law_lot.nd rfl (by first | exact .inl rfl | exact .inr rfl)))) (fun _ _ _ _ _ => sts_nil) (fun _ _ _ _ _ => (se_cG c_law_plain hG hr (by decide) (by rfl) (sa_cons (se_var (pv 6)) (sa_cons (se_bi (cr_sum rfl) f1_sum (by rfl) nb.b_sum (by decide +kernel) (spa_cons (sp_var (pv 3)) spa_nil)) sa_nil)))) (by decide)))) spa_nil)))))))
theorem ok_is_list (nb : Nb mg) : ∀ f fd, Fun K "is_list" "is_list" s_is_list f fd → FnOk P w K mg base CX0 1 f fd ["value"] (spF K f_is_list) := fun f fd F => def_ok (m := b_is_list) 1 1 F sc_is_list rfl rfl fun cdv A outer s H E hr =>
  (ss_one (s_ret (se_bi cr_isi f1_isi (by rfl) nb.b_isinstance (by decide +kernel) (spa_cons (sp_var (pv 0)) (spa_cons (SE.sp (se_tup (sa_cons (se_ty (by rfl) nb.b_list (by decide +kernel)) (sa_cons (se_ty (by rfl) nb.b_tuple (by decide +kernel)) sa_nil)))) spa_nil)))))
theorem ok_check_lots (c_is_list : CalG P w K mg base 1 "is_list" f_is_list) (c_is_short_lot : CalG P w K mg base 6 "is_short_lot" f_is_short_lot) (k_MOST_LOTS : ConR K mg "MOST_LOTS" (.int 6)) (nb : Nb mg) : ∀ f fd, Fun K "check_lots" "check_lots" s_check_lots f fd → FnG P w K mg base 7 f fd ["value"] (spF K f_check_lots) := fun f fd F => def_okG (m := b_check_lots) 1 2 F sc_check_lots rfl rfl fun cdv A outer s H E hcv hG hr =>
  (ss_cons (s_if (SW.st (sw_or (st_not (st_val (SE.sp (se_cG c_is_list hG hr (by decide) (by rfl) (sa_cons (se_var (pv 0)) sa_nil))))) (sw_or (st_not (st_chain op_le op_le c2_int c2_int (SE.sp se_int) (SE.sp (se_bi cr_len f1_len (by rfl) nb.b_len (by decide +kernel) (spa_cons (sp_var (pv 0)) spa_nil))) (SE.sp (se_con k_MOST_LOTS (by rfl))))) (sw_or1 (st_not (st_val (SE.sp (se_bi (cr_all rfl) f1_all (by rfl) nb.b_all (by decide +kernel) (spa_cons (SE.sp (SL.se (sl_lc (own := [("lot", 1)]) rfl sc_check_lots.nd (sip_seq (sp_var (pv 0))) (blkOk_by (N := N_check_lots) (sc := (defScope s_check_lots)) (by decide +kernel)) (fun _ _ _ _ _ => (sg_name (pg_name (i := 1) sc_check_lots.nd rfl (by first | exact .inl rfl | exact .inr rfl)))) (fun _ _ _ _ _ => sts_nil) (fun _ _ _ _ _ => (se_cG c_is_short_lot hG hr (by decide) (by rfl) (sa_cons (se_var (pv 1)) sa_nil))) (by decide)))) spa_nil)))))))))
  (ss_one s_never)
  ss_nil)
  (ss_one (s_if (st_not (st_val (SE.sp (se_bi (cr_all rfl) f1_all (by rfl) nb.b_all (by decide +kernel) (spa_cons (SE.sp (SL.se (sl_lc (own := [("lot", 1)]) rfl sc_check_lots.nd (sip_seq (sp_var (pv 0))) (blkOk_by (N := N_check_lots) (sc := (defScope s_check_lots)) (by decide +kernel)) (fun _ _ _ _ _ => (sg_name (pg_name (i := 1) sc_check_lots.nd rfl (by first | exact .inl rfl | exact .inr rfl)))) (fun _ _ _ _ _ => sts_nil) (fun _ _ _ _ _ => (se_cmp (op_eqD hr.units) c2_eq (SE.sp (se_bi cr_len f1_len (by rfl) nb.b_len (by decide +kernel) (spa_cons (sp_var (pv 1)) spa_nil))) (SE.sp (se_bi cr_len f1_len (by rfl) nb.b_len (by decide +kernel) (spa_cons (SE.sp (se_ix ix_seq o2_ix (sp_var (pv 0)) (SE.sp se_int) (fun _ _ => rfl))) spa_nil))) (nomark _))) (by decide)))) spa_nil)))))
  (ss_one s_never)
  ss_nil)))
theorem ok_products_sum (c_total : CalG P w K mg base 4 "total" f_total) (c_multiply : CalG P w K mg base 3 "multiply" f_multiply) (nb : Nb mg) : ∀ f fd, Fun K "products_sum" "products_sum" s_products_sum f fd → FnG P w K mg base 5 f fd ["some", "others"] (spF K f_products_sum) := fun f fd F => def_okG (m := b_products_sum) 2 4 F sc_products_sum rfl rfl fun cdv A outer s H E hcv hG hr =>
  (ss_one (s_ret (se_cG c_total hG hr (by decide) (by rfl) (sa_cons (SL.se (sl_lc (own := [("one", 2), ("late", 3)]) rfl sc_products_sum.nd (sip_zip (by rfl) nb.b_zip (sp_var (pv 0)) (sp_var (pv 1))) (blkOk_by (N := N_products_sum) (sc := (defScope s_products_sum)) (by decide +kernel)) (fun _ _ _ _ _ => (sg_tup rfl (sgs_cons (sg_name (pg_name (i := 2) sc_products_sum.nd rfl (by first | exact .inl rfl | exact .inr rfl))) (sgs_cons (sg_name (pg_name (i := 3) sc_products_sum.nd rfl (by first | exact .inl rfl | exact .inr rfl))) sgs_nil)))) (fun _ _ _ _ _ => sts_nil) (fun _ _ _ _ _ => (se_cG c_multiply hG hr (by decide) (by rfl) (sa_cons (se_var (pv 2)) (sa_cons (se_var (pv 3)) sa_nil)))) (by decide))) sa_nil))))
theorem ok_mixed_of (c_products_sum : CalG P w K mg base 5 "products_sum" f_products_sum) (nb : Nb mg) : ∀ f fd, Fun K "mixed_of" "mixed_of" s_mixed_of f fd → FnG P w K mg base 6 f fd ["weights", "lots"] (spF K f_mixed_of) := fun f fd F => def_okG (m := b_mixed_of) 2 4 F sc_mixed_of rfl rfl fun cdv A outer s H E hcv hG hr =>
  (ss_one (s_ret (se_bt call_tuple_of f1_tuple (by rfl) nb.b_tuple (by decide +kernel) (spa_cons (SE.sp (SL.se (sl_lc (own := [("place", 2)]) rfl sc_mixed_of.nd (SI.sip (si_range1 (by rfl) nb.b_range (SE.sp (se_bi cr_len f1_len (by rfl) nb.b_len (by decide +kernel) (spa_cons (SE.sp (se_ix ix_seq o2_ix (sp_var (pv 1)) (SE.sp se_int) (fun _ _ => rfl))) spa_nil))))) (blkOk_by (N := N_mixed_of) (sc := (defScope s_mixed_of)) (by decide +kernel)) (fun _ _ _ _ _ => (sg_name (pg_name (i := 2) sc_mixed_of.nd rfl (by first | exact .inl rfl | exact .inr rfl)))) (fun _ _ _ _ _ => sts_nil) (fun _ _ _ _ _ => (se_cG c_products_sum hG hr (by decide) (by rfl) (sa_cons (se_var (pv 0)) (sa_cons (SL.se (sl_lc (own := [("lot", 3)]) rfl sc_mixed_of.nd (sip_seq (sp_var (pv 1))) (blkOk_by (N := N_mixed_of) (sc := (relS _ (defScope s_mixed_of))) (by decide +kernel)) (fun _ _ _ _ _ => (sg_name (pg_name (i := 3) sc_mixed_of.nd rfl (by first | exact .inl rfl | exact .inr rfl)))) (fun _ _ _ _ _ => sts_nil) (fun _ _ _ _ _ => (se_ix ix_seq o2_ix (sp_var (pv 3)) (sp_var (pv 2)) (fun _ _ => rfl))) (by decide))) sa_nil)))) (by decide)))) spa_nil))))
theorem ok_mixed (c_check_lots : CalG P w K mg base 7 "check_lots" f_check_lots) (c_is_short_lot : CalG P w K mg base 6 "is_short_lot" f_is_short_lot) (c_mixed_of : CalG P w K mg base 6 "mixed_of" f_mixed_of) (nb : Nb mg) : ∀ f fd, Fun K "mixed" "mixed" s_mixed f fd → FnG P w K mg base 8 f fd ["weights", "lots"] (spF K f_mixed) := fun f fd F => def_okG (m := b_mixed) 2 2 F sc_mixed rfl rfl fun cdv A outer s H E hcv hG hr =>
  (ss_cons (s_expr (se_cG c_check_lots hG hr (by decide) (by rfl) (sa_cons (se_var (pv 1)) sa_nil)))
  (ss_cons (s_if (SW.st (sw_or (st_not (st_val (SE.sp (se_cG c_is_short_lot hG hr (by decide) (by rfl) (sa_cons (se_var (pv 0)) sa_nil))))) (sw_or1 (st_cmp (op_neD hr.units) c2_ne (SE.sp (se_bi cr_len f1_len (by rfl) nb.b_len (by decide +kernel) (spa_cons (sp_var (pv 0)) spa_nil))) (SE.sp (se_bi cr_len f1_len (by rfl) nb.b_len (by decide +kernel) (spa_cons (sp_var (pv 1)) spa_nil))) (nomark _)))))
  (ss_one s_never)
  ss_nil)
  (ss_one (s_ret (se_cG c_mixed_of hG hr (by decide) (by rfl) (sa_cons (se_var (pv 0)) (sa_cons (se_var (pv 1)) sa_nil)))))))
theorem ok_is_lot (c_is_lot_of : CalG P w K mg base 5 "is_lot_of" f_is_lot_of) : ∀ f fd, Fun K "is_lot" "is_lot" s_is_lot f fd → FnG P w K mg base 6 f fd ["value"] (spF K f_is_lot) := fun f fd F => def_okG (m := b_is_lot) 1 1 F sc_is_lot rfl rfl fun cdv A outer s H E hcv hG hr =>
  (ss_one (s_ret (se_cG c_is_lot_of hG hr (by decide) (by rfl) (sa_cons (se_var (pv 0)) sa_nil))))
theorem ok_law_mean (c_law_total : CalG P w K mg base 3 "_law_total" f_law_total) (c_law_times : CalG P w K mg base 2 "_law_times" f_law_times) (nb : Nb mg) : ∀ f fd, Fun K "_law_mean" "_law_mean" s_law_mean f fd → FnG P w K mg base 4 f fd ["lot", "worths"] (spF K f_law_mean) := fun f fd F => def_okG (m := b_law_mean) 2 4 F sc_law_mean rfl rfl fun cdv A outer s H E hcv hG hr =>
  (ss_one (s_ret (se_cG c_law_total hG hr (by decide) (by rfl) (sa_cons (SL.se (sl_lc (own := [("one", 2), ("late", 3)]) rfl sc_law_mean.nd (sip_zip (by rfl) nb.b_zip (sp_var (pv 0)) (sp_var (pv 1))) (blkOk_by (N := N_law_mean) (sc := (defScope s_law_mean)) (by decide +kernel)) (fun _ _ _ _ _ => (sg_tup rfl (sgs_cons (sg_name (pg_name (i := 2) sc_law_mean.nd rfl (by first | exact .inl rfl | exact .inr rfl))) (sgs_cons (sg_name (pg_name (i := 3) sc_law_mean.nd rfl (by first | exact .inl rfl | exact .inr rfl))) sgs_nil)))) (fun _ _ _ _ _ => sts_nil) (fun _ _ _ _ _ => (se_cG c_law_times hG hr (by decide) (by rfl) (sa_cons (se_var (pv 2)) (sa_cons (se_var (pv 3)) sa_nil)))) (by decide))) sa_nil))))
theorem ok_support_of (nb : Nb mg) : ∀ f fd, Fun K "support_of" "support_of" s_support_of f fd → FnG P w K mg base 1 f fd ["lot"] (spN K 0 f_support_of) := fun f fd F => def_okN (m := b_support_of) 1 3 F sc_support_of rfl rfl fun cdv A outer s H E hcv hG hr =>
  (ssn_ret (SL.sen (sl_lc (own := [("place", 1), ("one", 2)]) rfl sc_support_of.nd (sip_enum (by rfl) nb.b_enumerate (sp_var (pv 0))) (blkOk_by (N := N_support_of) (sc := (defScope s_support_of)) (by decide +kernel)) (fun _ _ _ _ _ => (sg_tup rfl (sgs_cons (sg_name (pg_name (i := 1) sc_support_of.nd rfl (by first | exact .inl rfl | exact .inr rfl))) (sgs_cons (sg_name (pg_name (i := 2) sc_support_of.nd rfl (by first | exact .inl rfl | exact .inr rfl))) sgs_nil)))) (fun _ _ _ _ _ => (sts_one (st_cmp op_gt c2_int (SE.sp (se_ix ix_seq o2_ix (sp_var (pv 2)) (SE.sp se_int) (fun _ _ => rfl))) (SE.sp se_int) (nomark _)))) (fun _ _ _ _ _ => (se_var (pv 1))) (by decide))))
theorem ok_support (c_check_lot : CalG P w K mg base 7 "check_lot" f_check_lot) (c_support_of : CalG P w K mg base 1 "support_of" f_support_of) (cn_support_of : CalN P w K mg base 1 0 "support_of" f_support_of) : ∀ f fd, Fun K "support" "support" s_support f fd → FnG P w K mg base 8 f fd ["lot"] (spN K 0 f_support) := fun f fd F => def_okN (m := b_support) 1 1 F sc_support rfl rfl fun cdv A outer s H E hcv hG hr =>
  (ssn_cons (s_expr (se_cG c_check_lot hG hr (by decide) (by rfl) (sa_cons (se_var (pv 0)) sa_nil)))
  (ssn_ret (sen_call cn_support_of hG hr (by decide) (by rfl) (sa_cons (se_var (pv 0)) sa_nil))))
theorem ok_law_mixed (c_law_draw : CalG P w K mg base 1 "_law_draw" f_law_draw) (nb : Nb mg) : ∀ f fd, Fun K "_law_mixed" "_law_mixed" s_law_mixed f fd → FnG P w K mg base 2 f fd ["pot", "some"] (spF K f_law_mixed) := fun f fd F => def_okG (m := b_law_mixed) 2 4 F sc_law_mixed rfl rfl fun cdv A outer s H E hcv hG hr =>
  (ss_cons (s_parLL (by decide) (sl_list (by rfl) nb.b_list (sp_var (pv 1))) (sl_lst sa_nil) (by rfl) (by rfl) (fun ta ha => ps_par (by rfl) sc_law_mixed.nd rfl rfl (by decide) rfl rfl ha (by rfl)))
  (ss_cons (s_while FUEL (fun hc hb => ps_while PassesOwn.never hc hb) (st_cmp (op_neD hr.units) c2_ne (sp_var (pv 2)) (SE.sp (SL.se (sl_lst sa_nil))) (nomark _))
  (ss_one (s_appPop (pv 3) (pv 2) (SE.sp (se_cG c_law_draw hG hr (by decide) (by rfl) (sa_cons (se_var (pv 0)) (sa_cons (se_bi cr_len f1_len (by rfl) nb.b_len (by decide +kernel) (spa_cons (sp_var (pv 2)) spa_nil)) sa_nil)))))))
  (ss_one (s_frz 3 (s_ret (se_var (pv 3)))))))
theorem ok_is_within (r_is_integer : CalR P w K mg base 1 "is_integer" f_is_integer) : ∀ f fd, Fun K "is_within" "is_within" s_is_within f fd → FnOk P w K mg base CX0 2 f fd ["value", "least", "most"] (spF K f_is_within) := fun f fd F => def_ok (m := b_is_within) 3 3 F sc_is_within rfl rfl fun cdv A outer s H E hr =>
  (ss_one (s_ret (se_and (se_c r_is_integer hr (by decide) (by rfl) (sa_cons (se_var (pv 0)) sa_nil)) (se_one (se_chain op_le op_le c2_int c2_int (sp_var (pv 1)) (sp_var (pv 0)) (sp_var (pv 2)))))))
theorem ok_are_places (r_is_list : CalR P w K mg base 1 "is_list" f_is_list) (r_is_within : CalR P w K mg base 2 "is_within" f_is_within) (nb : Nb mg) : ∀ f fd, Fun K "are_places" "are_places" s_are_places f fd → FnOk P w K mg base CX0 3 f fd ["many", "value"] (spF K f_are_places) := fun f fd F => def_ok (m := b_are_places) 2 3 F sc_are_places rfl rfl fun cdv A outer s H E hr =>
  (ss_cons (s_if (SW.st (sw_or (st_not (st_val (SE.sp (se_c r_is_list hr (by decide) (by rfl) (sa_cons (se_var (pv 1)) sa_nil))))) (sw_or1 (st_not (st_val (SE.sp (se_bi (cr_all rfl) f1_all (by rfl) nb.b_all (by decide +kernel) (spa_cons (SE.sp (SL.se (sl_lc (own := [("one", 2)]) rfl sc_are_places.nd (sip_seq (sp_var (pv 1))) (blkOk_by (N := N_are_places) (sc := (defScope s_are_places)) (by decide +kernel)) (fun _ _ _ _ _ => (sg_name (pg_name (i := 2) sc_are_places.nd rfl (by first | exact .inl rfl | exact .inr rfl)))) (fun _ _ _ _ _ => sts_nil) (fun _ _ _ _ _ => (se_c r_is_within hr (by decide) (by rfl) (sa_cons (se_var (pv 2)) (sa_cons se_int (sa_cons (se_op op_sub o2_sub (sp_var (pv 0)) (SE.sp se_int)) sa_nil))))) (by decide)))) spa_nil))))))))
  (ss_one (s_ret se_bl))
  ss_nil)
  (ss_one (s_ret (se_cmp (op_eqD hr.units) c2_eq (SE.sp (se_lenset2 (by rfl) nb.b_len (by rfl) nb.b_set (sp_var (pv 1)))) (SE.sp (se_bi cr_len f1_len (by rfl) nb.b_len (by decide +kernel) (spa_cons (sp_var (pv 1)) spa_nil))) (nomark _)))))
theorem ok_check_places (r_are_places : CalR P w K mg base 3 "are_places" f_are_places) : ∀ f fd, Fun K "check_places" "check_places" s_check_places f fd → FnOk P w K mg base CX0 4 f fd ["many", "value"] (spF K f_check_places) := fun f fd F => def_ok (m := b_check_places) 2 2 F sc_check_places rfl rfl fun cdv A outer s H E hr =>
  (ss_one (s_if (st_not (st_val (SE.sp (se_c r_are_places hr (by decide) (by rfl) (sa_cons (se_var (pv 0)) (sa_cons (se_var (pv 1)) sa_nil))))))
  (ss_one s_never)
  ss_nil))
theorem ok_has_of (r_total : CalR P w K mg base 4 "total" f_total) : ∀ f fd, Fun K "has_of" "has_of" s_has_of f fd → FnOk P w K mg base CX0 5 f fd ["lot", "places"] (spF K f_has_of) := fun f fd F => def_ok (m := b_has_of) 2 3 F sc_has_of rfl rfl fun cdv A outer s H E hr =>
  (ss_one (s_ret (se_c r_total hr (by decide) (by rfl) (sa_cons (SL.se (sl_lc (own := [("place", 2)]) rfl sc_has_of.nd (sip_seq (sp_var (pv 1))) (blkOk_by (N := N_has_of) (sc := (defScope s_has_of)) (by decide +kernel)) (fun _ _ _ _ _ => (sg_name (pg_name (i := 2) sc_has_of.nd rfl (by first | exact .inl rfl | exact .inr rfl)))) (fun _ _ _ _ _ => sts_nil) (fun _ _ _ _ _ => (se_ix ix_seq o2_ix (sp_var (pv 0)) (sp_var (pv 2)) (fun _ _ => rfl))) (by decide))) sa_nil))))
theorem ok_has (c_check_lot : CalG P w K mg base 7 "check_lot" f_check_lot) (c_check_places : CalG P w K mg base 4 "check_places" f_check_places) (c_has_of : CalG P w K mg base 5 "has_of" f_has_of) (nb : Nb mg) : ∀ f fd, Fun K "has" "has" s_has f fd → FnG P w K mg base 8 f fd ["lot", "places"] (spF K f_has) := fun f fd F => def_okG (m := b_has) 2 2 F sc_has rfl rfl fun cdv A outer s H E hcv hG hr =>
  (ss_cons (s_expr (se_cG c_check_lot hG hr (by decide) (by rfl) (sa_cons (se_var (pv 0)) sa_nil)))
  (ss_cons (s_expr (se_cG c_check_places hG hr (by decide) (by rfl) (sa_cons (se_bi cr_len f1_len (by rfl) nb.b_len (by decide +kernel) (spa_cons (sp_var (pv 0)) spa_nil)) (sa_cons (se_var (pv 1)) sa_nil))))
  (ss_one (s_ret (se_cG c_has_of hG hr (by decide) (by rfl) (sa_cons (se_var (pv 0)) (sa_cons (se_var (pv 1)) sa_nil)))))))
theorem ok_law_fraction (c_law_plain : CalG P w K mg base 1 "_law_plain" f_law_plain) (c_law_draw : CalG P w K mg base 1 "_law_draw" f_law_draw) : ∀ f fd, Fun K "_law_fraction" "_law_fraction" s_law_fraction f fd → FnG P w K mg base 2 f fd ["pot", "most"] (spF K f_law_fraction) := fun f fd F => def_okG (m := b_law_fraction) 2 2 F sc_law_fraction rfl rfl fun cdv A outer s H E hcv hG hr =>
  (ss_one (s_ret (se_cG c_law_plain hG hr (by decide) (by rfl) (sa_cons (se_op op_sub o2_sub (SE.sp (se_cG c_law_draw hG hr (by decide) (by rfl) (sa_cons (se_var (pv 0)) (sa_cons (se_op or_add o2_add (SE.sp (se_op or_mul o2_mul (SE.sp se_int) (sp_var (pv 1)))) (SE.sp se_int)) sa_nil)))) (sp_var (pv 1))) (sa_cons (se_op or_add o2_add (SE.sp se_int) (SE.sp (se_cG c_law_draw hG hr (by decide) (by rfl) (sa_cons (se_var (pv 0)) (sa_cons (se_var (pv 1)) sa_nil))))) sa_nil)))))
theorem ok_law_spread (c_law_plus : CalG P w K mg base 2 "_law_plus" f_law_plus) (c_law_times : CalG P w K mg base 2 "_law_times" f_law_times) (c_law_total : CalG P w K mg base 3 "_law_total" f_law_total) (nb : Nb mg) : ∀ f fd, Fun K "_law_spread" "_law_spread" s_law_spread f fd → FnG P w K mg base 4 f fd ["lot", "worths"] (spF K f_law_spread) := fun f fd F => def_okG (m := b_law_spread) 2 8 F sc_law_spread rfl rfl fun cdv A outer s H E hcv hG hr =>
  (ss_cons (s_own (ps_set (i := 2) sc_law_spread.nd rfl (by first | exact .inl rfl | exact .inr rfl) (SL.pe (sl_lst sa_nil))) (fun _ _ _ h => h))
  (ss_cons (s_for PassesOwn.never rfl (si_zip (by rfl) nb.b_zip (se_var (pv 0)) (se_var (pv 1))) (sg_tup rfl (sgs_cons (sg_name (pg_name (i := 3) sc_law_spread.nd rfl (by first | exact .inl rfl | exact .inr rfl))) (sgs_cons (sg_name (pg_name (i := 4) sc_law_spread.nd rfl (by first | exact .inl rfl | exact .inr rfl))) sgs_nil)))
  (ss_one (s_for PassesOwn.never rfl (si_zip (by rfl) nb.b_zip (se_var (pv 0)) (se_var (pv 1))) (sg_tup rfl (sgs_cons (sg_name (pg_name (i := 5) sc_law_spread.nd rfl (by first | exact .inl rfl | exact .inr rfl))) (sgs_cons (sg_name (pg_name (i := 6) sc_law_spread.nd rfl (by first | exact .inl rfl | exact .inr rfl))) sgs_nil)))
  (ss_cons (s_asg (ps_set (i := 7) sc_law_spread.nd rfl (by first | exact .inl rfl | exact .inr rfl) (SE.pe (se_cG c_law_plus hG hr (by decide) (by rfl) (sa_cons (se_var (pv 4)) (sa_cons (se_tup (sa_cons (se_op op_sub o2_sub (SE.sp se_int) (SE.sp (se_ix ix_seq o2_ix (sp_var (pv 6)) (SE.sp se_int) (fun _ _ => rfl)))) (sa_cons (se_ix ix_seq o2_ix (sp_var (pv 6)) (SE.sp se_int) (fun _ _ => rfl)) sa_nil))) sa_nil))))) (fun _ _ _ h => h))
  (ss_one (s_app (pv 2) (se_cG c_law_times hG hr (by decide) (by rfl) (sa_cons (se_cG c_law_times hG hr (by decide) (by rfl) (sa_cons (se_var (pv 3)) (sa_cons (se_var (pv 5)) sa_nil))) (sa_cons (se_cG c_law_times hG hr (by decide) (by rfl) (sa_cons (se_var (pv 7)) (sa_cons (se_var (pv 7)) sa_nil))) sa_nil)))))))))
  (ss_one (s_frz 2 (s_ret (se_cG c_law_times hG hr (by decide) (by rfl) (sa_cons (se_cG c_law_total hG hr (by decide) (by rfl) (sa_cons (se_var (pv 2)) sa_nil)) (sa_cons (se_tup (sa_cons se_int (sa_cons se_int sa_nil))) sa_nil))))))))
theorem ok_are_worths (c_is_list : CalG P w K mg base 1 "is_list" f_is_list) (c_is_short : CalG P w K mg base 3 "is_short" f_is_short) (nb : Nb mg) : ∀ f fd, Fun K "are_worths" "are_worths" s_are_worths f fd → FnG P w K mg base 4 f fd ["many", "value"] (spF K f_are_worths) := fun f fd F => def_okG (m := b_are_worths) 2 3 F sc_are_worths rfl rfl fun cdv A outer s H E hcv hG hr =>
  (ss_one (s_ret (se_and (se_cG c_is_list hG hr (by decide) (by rfl) (sa_cons (se_var (pv 1)) sa_nil)) (se_and (se_cmp (op_eqD hr.units) c2_eq (SE.sp (se_bi cr_len f1_len (by rfl) nb.b_len (by decide +kernel) (spa_cons (sp_var (pv 1)) spa_nil))) (sp_var (pv 0)) (nomark _)) (se_one (se_bi (cr_all rfl) f1_all (by rfl) nb.b_all (by decide +kernel) (spa_cons (SE.sp (SL.se (sl_lc (own := [("one", 2)]) rfl sc_are_worths.nd (sip_seq (sp_var (pv 1))) (blkOk_by (N := N_are_worths) (sc := (defScope s_are_worths)) (by decide +kernel)) (fun _ _ _ _ _ => (sg_name (pg_name (i := 2) sc_are_worths.nd rfl (by first | exact .inl rfl | exact .inr rfl)))) (fun _ _ _ _ _ => sts_nil) (fun _ _ _ _ _ => (se_cG c_is_short hG hr (by decide) (by rfl) (sa_cons (se_var (pv 2)) sa_nil))) (by decide)))) spa_nil)))))))
theorem ok_check_worths (c_are_worths : CalG P w K mg base 4 "are_worths" f_are_worths) : ∀ f fd, Fun K "check_worths" "check_worths" s_check_worths f fd → FnG P w K mg base 5 f fd ["many", "value"] (spF K f_check_worths) := fun f fd F => def_okG (m := b_check_worths) 2 2 F sc_check_worths rfl rfl fun cdv A outer s H E hcv hG hr =>
  (ss_one (s_if (st_not (st_val (SE.sp (se_cG c_are_worths hG hr (by decide) (by rfl) (sa_cons (se_var (pv 0)) (sa_cons (se_var (pv 1)) sa_nil))))))
  (ss_one s_never)
  ss_nil))
theorem ok_mean_of (c_products_sum : CalG P w K mg base 5 "products_sum" f_products_sum) : ∀ f fd, Fun K "mean_of" "mean_of" s_mean_of f fd → FnG P w K mg base 6 f fd ["lot", "worths"] (spF K f_mean_of) := fun f fd F => def_okG (m := b_mean_of) 2 2 F sc_mean_of rfl rfl fun cdv A outer s H E hcv hG hr =>
  (ss_one (s_ret (se_cG c_products_sum hG hr (by decide) (by rfl) (sa_cons (se_var (pv 0)) (sa_cons (se_var (pv 1)) sa_nil)))))
theorem ok_take (c_reduced : CalG P w K mg base 2 "reduced" f_reduced) : ∀ f fd, Fun K "take" "take" s_take f fd → FnG P w K mg base 3 f fd ["one", "late"] (spF K f_take) := fun f fd F => def_okG (m := b_take) 2 2 F sc_take rfl rfl fun cdv A outer s H E hcv hG hr =>
  (ss_one (s_ret (se_cG c_reduced hG hr (by decide) (by rfl) (sa_cons (se_op op_sub o2_sub (SE.sp (se_op or_mul o2_mul (SE.sp (se_ix ix_seq o2_ix (sp_var (pv 0)) (SE.sp se_int) (fun _ _ => rfl))) (SE.sp (se_ix ix_seq o2_ix (sp_var (pv 1)) (SE.sp se_int) (fun _ _ => rfl))))) (SE.sp (se_op or_mul o2_mul (SE.sp (se_ix ix_seq o2_ix (sp_var (pv 1)) (SE.sp se_int) (fun _ _ => rfl))) (SE.sp (se_ix ix_seq o2_ix (sp_var (pv 0)) (SE.sp se_int) (fun _ _ => rfl)))))) (sa_cons (se_op or_mul o2_mul (SE.sp (se_ix ix_seq o2_ix (sp_var (pv 0)) (SE.sp se_int) (fun _ _ => rfl))) (SE.sp (se_ix ix_seq o2_ix (sp_var (pv 1)) (SE.sp se_int) (fun _ _ => rfl)))) sa_nil)))))
theorem ok_spread (c_check_lot : CalG P w K mg base 7 "check_lot" f_check_lot) (c_check_worths : CalG P w K mg base 5 "check_worths" f_check_worths) (c_mean_of : CalG P w K mg base 6 "mean_of" f_mean_of) (c_take : CalG P w K mg base 3 "take" f_take) (c_multiply : CalG P w K mg base 3 "multiply" f_multiply) (nb : Nb mg) : ∀ f fd, Fun K "spread" "spread" s_spread f fd → FnG P w K mg base 8 f fd ["lot", "worths"] (spF K f_spread) := fun f fd F => def_okG (m := b_spread) 2 4 F sc_spread rfl rfl fun cdv A outer s H E hcv hG hr =>
  (ss_cons (s_expr (se_cG c_check_lot hG hr (by decide) (by rfl) (sa_cons (se_var (pv 0)) sa_nil)))
  (ss_cons (s_expr (se_cG c_check_worths hG hr (by decide) (by rfl) (sa_cons (se_bi cr_len f1_len (by rfl) nb.b_len (by decide +kernel) (spa_cons (sp_var (pv 0)) spa_nil)) (sa_cons (se_var (pv 1)) sa_nil))))
  (ss_cons (s_asg (ps_set (i := 2) sc_spread.nd rfl (by first | exact .inl rfl | exact .inr rfl) (SE.pe (se_cG c_mean_of hG hr (by decide) (by rfl) (sa_cons (se_var (pv 0)) (sa_cons (se_var (pv 1)) sa_nil))))) (fun _ _ _ h => h))
  (ss_one (s_ret (se_cG c_take hG hr (by decide) (by rfl) (sa_cons (se_cG c_mean_of hG hr (by decide) (by rfl) (sa_cons (se_var (pv 0)) (sa_cons (SL.se (sl_lc (own := [("one", 3)]) rfl sc_spread.nd (sip_seq (sp_var (pv 1))) (blkOk_by (N := N_spread) (sc := (defScope s_spread)) (by decide +kernel)) (fun _ _ _ _ _ => (sg_name (pg_name (i := 3) sc_spread.nd rfl (by first | exact .inl rfl | exact .inr rfl)))) (fun _ _ _ _ _ => sts_nil) (fun _ _ _ _ _ => (se_cG c_multiply hG hr (by decide) (by rfl) (sa_cons (se_var (pv 3)) (sa_cons (se_var (pv 3)) sa_nil)))) (by decide))) sa_nil))) (sa_cons (se_cG c_multiply hG hr (by decide) (by rfl) (sa_cons (se_var (pv 2)) (sa_cons (se_var (pv 2)) sa_nil))) sa_nil))))))))
theorem ok_mean (c_check_lot : CalG P w K mg base 7 "check_lot" f_check_lot) (c_check_worths : CalG P w K mg base 5 "check_worths" f_check_worths) (c_mean_of : CalG P w K mg base 6 "mean_of" f_mean_of) (nb : Nb mg) : ∀ f fd, Fun K "mean" "mean" s_mean f fd → FnG P w K mg base 8 f fd ["lot", "worths"] (spF K f_mean) := fun f fd F => def_okG (m := b_mean) 2 2 F sc_mean rfl rfl fun cdv A outer s H E hcv hG hr =>
  (ss_cons (s_expr (se_cG c_check_lot hG hr (by decide) (by rfl) (sa_cons (se_var (pv 0)) sa_nil)))
  (ss_cons (s_expr (se_cG c_check_worths hG hr (by decide) (by rfl) (sa_cons (se_bi cr_len f1_len (by rfl) nb.b_len (by decide +kernel) (spa_cons (sp_var (pv 0)) spa_nil)) (sa_cons (se_var (pv 1)) sa_nil))))
  (ss_one (s_ret (se_cG c_mean_of hG hr (by decide) (by rfl) (sa_cons (se_var (pv 0)) (sa_cons (se_var (pv 1)) sa_nil)))))))
theorem ok_divide (r_reduced : CalR P w K mg base 2 "reduced" f_reduced) : ∀ f fd, Fun K "divide" "divide" s_divide f fd → FnOk P w K mg base CX0 3 f fd ["one", "late"] (spF K f_divide) := fun f fd F => def_ok (m := b_divide) 2 2 F sc_divide rfl rfl fun cdv A outer s H E hr =>
  (ss_one (s_ret (se_c r_reduced hr (by decide) (by rfl) (sa_cons (se_op or_mul o2_mul (SE.sp (se_ix ix_seq o2_ix (sp_var (pv 0)) (SE.sp se_int) (fun _ _ => rfl))) (SE.sp (se_ix ix_seq o2_ix (sp_var (pv 1)) (SE.sp se_int) (fun _ _ => rfl)))) (sa_cons (se_op or_mul o2_mul (SE.sp (se_ix ix_seq o2_ix (sp_var (pv 0)) (SE.sp se_int) (fun _ _ => rfl))) (SE.sp (se_ix ix_seq o2_ix (sp_var (pv 1)) (SE.sp se_int) (fun _ _ => rfl)))) sa_nil)))))
theorem ok_given_that {CS : Addr} {xB xn xi : String} {xbm : List Value} (xf_NoChance : ExcF K mg "NoChance" CS xB xn xi xbm) (r_check_lot : CalR P w K mg base 7 "check_lot" f_check_lot) (r_check_places : CalR P w K mg base 4 "check_places" f_check_places) (r_has_of : CalR P w K mg base 5 "has_of" f_has_of) (r_divide : CalR P w K mg base 3 "divide" f_divide) (k_NOUGHT : ConR K mg "NOUGHT" (.tup [(.int 0), (.int 1)])) (nb : Nb mg) : ∀ f fd, Fun K "given_that" "given_that" s_given_that f fd → FnOk P w K mg base (L2.CX P w) 8 f fd ["lot", "places"] (spX K (.ref CS) g_given_that) := fun f fd F => def_okX (m := b_given_that) 2 5 F sc_given_that rfl rfl fun cdv A outer s H E hr =>
  (ssx_cons (s_expr (se_c r_check_lot hr (by decide) (by rfl) (sa_cons (se_var (pv 0)) sa_nil)))
  (ssx_cons (s_expr (se_c r_check_places hr (by decide) (by rfl) (sa_cons (se_bi cr_len f1_len (by rfl) nb.b_len (by decide +kernel) (spa_cons (sp_var (pv 0)) spa_nil)) (sa_cons (se_var (pv 1)) sa_nil))))
  (ssx_cons (s_asg (ps_set (i := 2) sc_given_that.nd rfl (by first | exact .inl rfl | exact .inr rfl) (SE.pe (se_c r_has_of hr (by decide) (by rfl) (sa_cons (se_var (pv 0)) (sa_cons (se_var (pv 1)) sa_nil))))) (fun _ _ _ h => h))
  (ssx_raise rfl (takes_of rfl rfl rfl rfl) (pmk_own0 xf_NoChance.base xf_NoChance.inn xf_NoChance.gC xf_NoChance.kC (raises_own xf_NoChance.sub xf_NoChance.typ) (by rfl)) (st_cmp (op_eqD hr.units) c2_eq (SE.sp (se_ix ix_seq o2_ix (sp_var (pv 2)) (SE.sp se_int) (fun _ _ => rfl))) (SE.sp se_int) (nomark _))
  (ssx_one (s_ret (se_bt call_tuple_of f1_tuple (by rfl) nb.b_tuple (by decide +kernel) (spa_cons (SE.sp (SL.se (sl_lc (own := [("place", 3), ("one", 4)]) rfl sc_given_that.nd (sip_enum (by rfl) nb.b_enumerate (sp_var (pv 0))) (blkOk_by (N := N_given_that) (sc := (defScope s_given_that)) (by decide +kernel)) (fun _ _ _ _ _ => (sg_tup rfl (sgs_cons (sg_name (pg_name (i := 3) sc_given_that.nd rfl (by first | exact .inl rfl | exact .inr rfl))) (sgs_cons (sg_name (pg_name (i := 4) sc_given_that.nd rfl (by first | exact .inl rfl | exact .inr rfl))) sgs_nil)))) (fun _ _ _ _ _ => sts_nil) (fun _ _ _ _ _ => (se_if (st_cmp op_in_seq (c2_in false) (sp_var (pv 3)) (sp_var (pv 1)) (by rfl)) (se_c r_divide hr (by decide) (by rfl) (sa_cons (se_var (pv 4)) (sa_cons (se_var (pv 2)) sa_nil))) (se_con k_NOUGHT (by rfl)))) (by decide)))) spa_nil))))))))
theorem ok_common_bottom (c_divisor : CalG P w K mg base 1 "divisor" f_divisor) : ∀ f fd, Fun K "common_bottom" "common_bottom" s_common_bottom f fd → FnG P w K mg base 2 f fd ["lot"] (spF K f_common_bottom) := fun f fd F => def_okG (m := b_common_bottom) 1 4 F sc_common_bottom rfl rfl fun cdv A outer s H E hcv hG hr =>
  (ss_cons (s_asg (ps_set (i := 1) sc_common_bottom.nd rfl (by first | exact .inl rfl | exact .inr rfl) (SE.pe se_int)) (fun _ _ _ h => h))
  (ss_cons (s_for PassesOwn.never rfl (si_seq (se_var (pv 0))) (sg_tup rfl (sgs_cons (sg_name (pg_name (i := 2) sc_common_bottom.nd rfl (by first | exact .inl rfl | exact .inr rfl))) (sgs_cons (sg_name (pg_name (i := 3) sc_common_bottom.nd rfl (by first | exact .inl rfl | exact .inr rfl))) sgs_nil)))
  (ss_one (s_asg (ps_set (i := 1) sc_common_bottom.nd rfl (by first | exact .inl rfl | exact .inr rfl) (SE.pe (se_op op_fdivW o2_div (SE.sp (se_op or_mul o2_mul (sp_var (pv 1)) (sp_var (pv 3)))) (SE.sp (se_cG c_divisor hG hr (by decide) (by rfl) (sa_cons (se_var (pv 1)) (sa_cons (se_var (pv 3)) sa_nil))))))) (fun _ _ _ h => h))))
  (ss_one (s_ret (se_var (pv 1))))))
theorem ok_parts (c_check_lot : CalG P w K mg base 7 "check_lot" f_check_lot) (c_common_bottom : CalG P w K mg base 2 "common_bottom" f_common_bottom) (nb : Nb mg) : ∀ f fd, Fun K "parts" "parts" s_parts f fd → FnG P w K mg base 8 f fd ["lot"] (spF K f_parts) := fun f fd F => def_okG (m := b_parts) 1 4 F sc_parts rfl rfl fun cdv A outer s H E hcv hG hr =>
  (ss_cons (s_expr (se_cG c_check_lot hG hr (by decide) (by rfl) (sa_cons (se_var (pv 0)) sa_nil)))
  (ss_cons (s_asg (ps_set (i := 1) sc_parts.nd rfl (by first | exact .inl rfl | exact .inr rfl) (SE.pe (se_cG c_common_bottom hG hr (by decide) (by rfl) (sa_cons (se_var (pv 0)) sa_nil)))) (fun _ _ _ h => h))
  (ss_one (s_ret (se_tup (sa_cons (se_bt call_tuple_of f1_tuple (by rfl) nb.b_tuple (by decide +kernel) (spa_cons (SE.sp (SL.se (sl_lc (own := [("top", 2), ("own", 3)]) rfl sc_parts.nd (sip_seq (sp_var (pv 0))) (blkOk_by (N := N_parts) (sc := (defScope s_parts)) (by decide +kernel)) (fun _ _ _ _ _ => (sg_tup rfl (sgs_cons (sg_name (pg_name (i := 2) sc_parts.nd rfl (by first | exact .inl rfl | exact .inr rfl))) (sgs_cons (sg_name (pg_name (i := 3) sc_parts.nd rfl (by first | exact .inl rfl | exact .inr rfl))) sgs_nil)))) (fun _ _ _ _ _ => sts_nil) (fun _ _ _ _ _ => (se_op or_mul o2_mul (sp_var (pv 2)) (SE.sp (se_op op_fdivW o2_div (sp_var (pv 1)) (sp_var (pv 3)))))) (by decide)))) spa_nil)) (sa_cons (se_var (pv 1)) sa_nil)))))))
theorem ok_law_one_right {CS : Addr} {xB xn xi : String} {xbm : List Value} (xf_NoChance : ExcF K mg "NoChance" CS xB xn xi xbm) (KB : K.In base) (GB : base.Ns mainGlobals mg) (tbs : ∀ x ∈ TBC, LamX.TabB base mg x.1 x.2.1) (a_law_heard : At K mg "_law_heard" s_law_heard) (t_law_one_right : PySem.W.tabIn K "_law_one_right" = some (TC_law_one_right, TP_law_one_right)) (cx_given_that : CalX P w K mg base 8 "given_that" (.ref CS) g_given_that) (cxk_given_that_places_lot : CalKX P w K mg base 8 "given_that" (.ref CS) g_given_that ["places", "lot"] [1, 0]) (c_support : CalG P w K mg base 8 "support" f_support) (c_law_mixed : CalG P w K mg base 2 "_law_mixed" f_law_mixed) (c_law_draw : CalG P w K mg base 1 "_law_draw" f_law_draw) (c_law_total : CalG P w K mg base 3 "_law_total" f_law_total) (c_has : CalG P w K mg base 8 "has" f_has) (c_law_times : CalG P w K mg base 2 "_law_times" f_law_times) (c_law_fraction : CalG P w K mg base 2 "_law_fraction" f_law_fraction) (c_law_spread : CalG P w K mg base 4 "_law_spread" f_law_spread) (c_law_mean : CalG P w K mg base 4 "_law_mean" f_law_mean) (c_spread : CalG P w K mg base 8 "spread" f_spread) (c_mean : CalG P w K mg base 8 "mean" f_mean) (c_law_plus : CalG P w K mg base 2 "_law_plus" f_law_plus) (c_mixed : CalG P w K mg base 8 "mixed" f_mixed) (c_given_that : CalG P w K mg base 8 "given_that" f_given_that) (c_parts : CalG P w K mg base 8 "parts" f_parts) (c_law_plain : CalG P w K mg base 1 "_law_plain" f_law_plain) (cn_support : CalN P w K mg base 8 0 "support" f_support) (ck_support_lot : CalKG P w K mg base 8 "support" f_support ["lot"] [0]) (ck_has_places_lot : CalKG P w K mg base 8 "has" f_has ["places", "lot"] [1, 0]) (ck_spread_worths_lot : CalKG P w K mg base 8 "spread" f_spread ["worths", "lot"] [1, 0]) (ck_mean_worths_lot : CalKG P w K mg base 8 "mean" f_mean ["worths", "lot"] [1, 0]) (ck_parts_lot : CalKG P w K mg base 8 "parts" f_parts ["lot"] [0]) (nb : Nb mg) : ∀ f fd, Fun K "_law_one_right" "_law_one_right" s_law_one_right f fd → mg "_law_one_right" = some (.ref f) → FnG P w K mg base 11 f fd ["pot", "lot"] (spF K f_law_one_right) := fun f fd F hm => def_okG (m := b_law_one_right) 2 19 F sc_law_one_right rfl rfl fun cdv A outer s H E hcv hG hr =>
  (ss_cons (s_par (ps_par (by rfl) sc_law_one_right.nd rfl rfl (by decide) rfl rfl (SA.pa (sa_cons (se_bi cr_len f1_len (by rfl) nb.b_len (by decide +kernel) (spa_cons (sp_var (pv 1)) spa_nil)) (sa_cons (se_bi (cr_repr hG hr.units) f1_repr (by rfl) nb.b_repr (by decide +kernel) (spa_cons (sp_var (pv 1)) spa_nil)) sa_nil))) (by rfl)) (fun _ _ _ h => h))
  (ss_cons (s_setLc (ps_lc (i := 4) (own := [("place", 15)]) rfl sc_law_one_right.nd rfl rfl (sw_true rfl rfl rfl (by decide +kernel)) (SI.sip (si_range1 (by rfl) nb.b_range (sp_var (pv 2)))) (blkOk_by (N := N_law_one_right) (sc := (defScope s_law_one_right)) (by decide +kernel)) (fun _ _ _ _ _ => (sg_name (pg_name (i := 15) sc_law_one_right.nd rfl (by first | exact .inl rfl | exact .inr rfl)))) (fun _ _ _ _ _ => (sts_one (st_cmp (op_neD hr.units) c2_ne (SE.sp (se_ix ix_seq o2_ix (SE.sp (se_ix ix_seq o2_ix (sp_var (pv 1)) (sp_var (pv 15)) (fun _ _ => rfl))) (SE.sp se_int) (fun _ _ => rfl))) (SE.sp se_int) (nomark _)))) (fun _ _ _ _ _ => (se_var (pv 15))) (by decide)))
  (s_told (i := 5) sc_law_one_right.nd rfl (by first | exact .inl rfl | exact .inr rfl) (by first | exact .inl rfl | exact .inr rfl) (sen_call cn_support hG hr (by decide) (by rfl) (sa_cons (se_var (pv 1)) sa_nil)) (pv 5) (st_cmp (op_neD hr.units) c2_ne (SE.sp (se_bi (cr_repr hG hr.units) f1_repr (by rfl) nb.b_repr (by decide +kernel) (spa_cons (SE.sp (SL.se (sl_lst (sa_cons (se_var (pv 5)) (sa_cons (se_kG ck_support_lot hG hr (by decide) (by rfl) (sk_cons (se_var (pv 1)) sk_nil)) sa_nil))))) spa_nil))) (SE.sp (se_bi (cr_repr hG hr.units) f1_repr (by rfl) nb.b_repr (by decide +kernel) (spa_cons (SE.sp (SL.se (sl_lst (sa_cons (se_var (pv 4)) (sa_cons (se_var (pv 4)) sa_nil))))) spa_nil))) (nomark _)) pe_bl pe_non
  (ss_cons (s_asg (ps_set (i := 14) sc_law_one_right.nd rfl (by first | exact .inl rfl | exact .inr rfl) (SE.pe (se_cut (SE.sp (se_cG c_law_mixed hG hr (by decide) (by rfl) (sa_cons (se_var (pv 0)) (sa_cons (SL.se (sl_listrg1 rfl (by rfl) nb.b_list (by rfl) nb.b_range (sp_var (pv 2)))) sa_nil)))) so_none (so_some (SE.sp (se_cG c_law_draw hG hr (by decide) (by rfl) (sa_cons (se_var (pv 0)) (sa_cons (se_op or_add o2_add (sp_var (pv 2)) (SE.sp se_int)) sa_nil)))))))) (fun _ _ _ h => h))
  (ss_cons (s_asg (ps_set (i := 6) sc_law_one_right.nd rfl (by first | exact .inl rfl | exact .inr rfl) (SE.pe (se_cG c_law_total hG hr (by decide) (by rfl) (sa_cons (SL.se (sl_lc (own := [("place", 15)]) rfl sc_law_one_right.nd (sip_seq (sp_var (pv 14))) (blkOk_by (N := N_law_one_right) (sc := (defScope s_law_one_right)) (by decide +kernel)) (fun _ _ _ _ _ => (sg_name (pg_name (i := 15) sc_law_one_right.nd rfl (by first | exact .inl rfl | exact .inr rfl)))) (fun _ _ _ _ _ => sts_nil) (fun _ _ _ _ _ => (se_ix ix_seq o2_ix (sp_var (pv 1)) (sp_var (pv 15)) (fun _ _ => rfl))) (by decide))) sa_nil)))) (fun _ _ _ h => h))
  (ss_cons (s_if (st_cmp (op_neD hr.units) c2_ne (SE.sp (se_bi (cr_repr hG hr.units) f1_repr (by rfl) nb.b_repr (by decide +kernel) (spa_cons (SE.sp (SL.se (sl_lst (sa_cons (se_cG c_support hG hr (by decide) (by rfl) (sa_cons (se_var (pv 1)) sa_nil)) (sa_cons (se_cG c_has hG hr (by decide) (by rfl) (sa_cons (se_var (pv 1)) (sa_cons (se_var (pv 14)) sa_nil))) (sa_cons (se_kG ck_has_places_lot hG hr (by decide) (by rfl) (sk_cons (se_bt call_tuple_of f1_tuple (by rfl) nb.b_tuple (by decide +kernel) (spa_cons (sp_var (pv 14)) spa_nil)) (sk_cons (se_var (pv 1)) sk_nil))) sa_nil)))))) spa_nil))) (SE.sp (se_bi (cr_repr hG hr.units) f1_repr (by rfl) nb.b_repr (by decide +kernel) (spa_cons (SE.sp (SL.se (sl_lst (sa_cons (se_var (pv 4)) (sa_cons (se_var (pv 6)) (sa_cons (se_var (pv 6)) sa_nil)))))) spa_nil))) (nomark _))
  (ss_one (s_ret se_bl))
  ss_nil)
  (ss_cons (s_asg (ps_set (i := 7) sc_law_one_right.nd rfl (by first | exact .inl rfl | exact .inr rfl) (SE.pe se_str)) (fun _ _ _ h => h))
  (ss_cons (s_if (st_cmp (op_neD hr.units) c2_ne (SE.sp (se_ix ix_seq o2_ix (sp_var (pv 6)) (SE.sp se_int) (fun _ _ => rfl))) (SE.sp se_int) (nomark _))
  (ss_one (s_asg (ps_set (i := 7) sc_law_one_right.nd rfl (by first | exact .inl rfl | exact .inr rfl) (SE.pe (se_bt call_tuple_of f1_tuple (by rfl) nb.b_tuple (by decide +kernel) (spa_cons (SE.sp (SL.se (sl_lc (own := [("at", 16), ("one", 17)]) rfl sc_law_one_right.nd (sip_enum (by rfl) nb.b_enumerate (sp_var (pv 1))) (blkOk_by (N := N_law_one_right) (sc := (defScope s_law_one_right)) (by decide +kernel)) (fun _ _ _ _ _ => (sg_tup rfl (sgs_cons (sg_name (pg_name (i := 16) sc_law_one_right.nd rfl (by first | exact .inl rfl | exact .inr rfl))) (sgs_cons (sg_name (pg_name (i := 17) sc_law_one_right.nd rfl (by first | exact .inl rfl | exact .inr rfl))) sgs_nil)))) (fun _ _ _ _ _ => sts_nil) (fun _ _ _ _ _ => (se_if (st_cmp op_in_seq (c2_in false) (sp_var (pv 16)) (sp_var (pv 14)) (by rfl)) (se_cG c_law_times hG hr (by decide) (by rfl) (sa_cons (se_var (pv 17)) (sa_cons (se_revA (sp_var (pv 6))) sa_nil))) (se_tup (sa_cons se_int (sa_cons se_int sa_nil))))) (by decide)))) spa_nil)))) (fun _ _ _ h => h)))
  ss_nil)
  (ss_cons (s_own (ps_set (i := 5) sc_law_one_right.nd rfl (by first | exact .inl rfl | exact .inr rfl) (SL.pe (sl_lst (sa_cons (se_heard (k := 8) a_law_heard sc_law_heard rfl (.inl rfl) (fun _ _ _ _ _ _ us hl => match us, hl with | [_], _ => rfl) (fun g cdg => heard_gives sc_law_heard.nd rfl rfl (.inl rfl) (.inl rfl) rfl xf_NoChance.gC (by decide) (by decide) (by decide) rfl) (tbs (TC_law_one_right, TP_law_one_right, "_law_one_right.<locals>.<lambda>") (by decide +kernel)) (hcv.symm.trans (code_of KB GB t_law_one_right F hm)) (show (TP_law_one_right, ("_law_one_right.<locals>.<lambda>" : Str)) ∈ TB by decide +kernel) (show ∀ p ∈ TB, p.1 = TP_law_one_right → p.2 = ("_law_one_right.<locals>.<lambda>" : Str) by decide +kernel) (hr.mono (by decide)) (by rfl) xf_NoChance.ext (lamS_by (sc := defScope s_law_one_right) (by decide +kernel)) (lam_call cx_given_that (by decide) rfl (fun _ _ _ _ _ _ _ => (sa_cons (se_var (pv 1)) (sa_cons (se_var (pv 14)) sa_nil))))) sa_nil)))) (fun _ _ _ h => h))
  (ss_cons (s_app (pv 5) (se_heard (k := 8) a_law_heard sc_law_heard rfl (.inl rfl) (fun _ _ _ _ _ _ us hl => match us, hl with | [_], _ => rfl) (fun g cdg => heard_gives sc_law_heard.nd rfl rfl (.inl rfl) (.inl rfl) rfl xf_NoChance.gC (by decide) (by decide) (by decide) rfl) (tbs (TC_law_one_right, TP_law_one_right, "_law_one_right.<locals>.<lambda>") (by decide +kernel)) (hcv.symm.trans (code_of KB GB t_law_one_right F hm)) (show (TP_law_one_right, ("_law_one_right.<locals>.<lambda>" : Str)) ∈ TB by decide +kernel) (show ∀ p ∈ TB, p.1 = TP_law_one_right → p.2 = ("_law_one_right.<locals>.<lambda>" : Str) by decide +kernel) (hr.mono (by decide)) (by rfl) xf_NoChance.ext (lamS_by (sc := defScope s_law_one_right) (by decide +kernel)) (lam_callK cxk_given_that_places_lot (by decide) rfl (fun _ _ _ _ _ _ _ => (sk_cons (se_bt call_tuple_of f1_tuple (by rfl) nb.b_tuple (by decide +kernel) (spa_cons (sp_var (pv 14)) spa_nil)) (sk_cons (se_var (pv 1)) sk_nil))))))
  (ss_cons (s_if (st_cmp (op_neD hr.units) c2_ne (SE.sp (se_bi (cr_repr hG hr.units) f1_repr (by rfl) nb.b_repr (by decide +kernel) (spa_cons (sp_var (pv 5)) spa_nil))) (SE.sp (se_bi (cr_repr hG hr.units) f1_repr (by rfl) nb.b_repr (by decide +kernel) (spa_cons (SE.sp (SL.se (sl_lst (sa_cons (se_var (pv 7)) (sa_cons (se_var (pv 7)) sa_nil))))) spa_nil))) (nomark _))
  (ss_one (s_ret se_bl))
  ss_nil)
  (ss_cons (s_setLc (ps_lc (i := 8) (own := [("place", 15)]) rfl sc_law_one_right.nd rfl rfl (sw_true rfl rfl rfl (by decide +kernel)) (SI.sip (si_range1 (by rfl) nb.b_range (sp_var (pv 2)))) (blkOk_by (N := N_law_one_right) (sc := (defScope s_law_one_right)) (by decide +kernel)) (fun _ _ _ _ _ => (sg_name (pg_name (i := 15) sc_law_one_right.nd rfl (by first | exact .inl rfl | exact .inr rfl)))) (fun _ _ _ _ _ => sts_nil) (fun _ _ _ _ _ => (se_cG c_law_fraction hG hr (by decide) (by rfl) (sa_cons (se_var (pv 0)) (sa_cons se_int sa_nil)))) (by decide)))
  (ss_cons (s_asg (ps_set (i := 4) sc_law_one_right.nd rfl (by first | exact .inl rfl | exact .inr rfl) (SE.pe (SL.se (sl_lst (sa_cons (se_cG c_law_mean hG hr (by decide) (by rfl) (sa_cons (se_var (pv 1)) (sa_cons (se_var (pv 8)) sa_nil))) (sa_cons (se_cG c_law_spread hG hr (by decide) (by rfl) (sa_cons (se_var (pv 1)) (sa_cons (se_var (pv 8)) sa_nil))) sa_nil)))))) (fun _ _ _ h => h))
  (ss_cons (s_asg (ps_set (i := 9) sc_law_one_right.nd rfl (by first | exact .inl rfl | exact .inr rfl) (SE.pe (SL.se (sl_lst (sa_cons (se_kG ck_mean_worths_lot hG hr (by decide) (by rfl) (sk_cons (se_bt call_tuple_of f1_tuple (by rfl) nb.b_tuple (by decide +kernel) (spa_cons (sp_var (pv 8)) spa_nil)) (sk_cons (se_var (pv 1)) sk_nil))) (sa_cons (se_kG ck_spread_worths_lot hG hr (by decide) (by rfl) (sk_cons (se_var (pv 8)) (sk_cons (se_var (pv 1)) sk_nil))) sa_nil)))))) (fun _ _ _ h => h))
  (ss_cons (s_if (st_cmp (op_neD hr.units) c2_ne (SE.sp (se_bi (cr_repr hG hr.units) f1_repr (by rfl) nb.b_repr (by decide +kernel) (spa_cons (SE.sp (SL.se (sl_lst (sa_cons (SL.se (sl_lst (sa_cons (se_cG c_mean hG hr (by decide) (by rfl) (sa_cons (se_var (pv 1)) (sa_cons (se_var (pv 8)) sa_nil))) (sa_cons (se_cG c_spread hG hr (by decide) (by rfl) (sa_cons (se_var (pv 1)) (sa_cons (se_var (pv 8)) sa_nil))) sa_nil)))) (sa_cons (se_var (pv 9)) sa_nil))))) spa_nil))) (SE.sp (se_bi (cr_repr hG hr.units) f1_repr (by rfl) nb.b_repr (by decide +kernel) (spa_cons (SE.sp (SL.se (sl_lst (sa_cons (se_var (pv 4)) (sa_cons (se_var (pv 4)) sa_nil))))) spa_nil))) (nomark _))
  (ss_one (s_ret se_bl))
  ss_nil)
  (ss_cons (s_setLc (ps_lc (i := 10) (own := [("place", 15)]) rfl sc_law_one_right.nd rfl rfl (sw_true rfl rfl rfl (by decide +kernel)) (SI.sip (si_range1 (by rfl) nb.b_range (sp_var (pv 2)))) (blkOk_by (N := N_law_one_right) (sc := (defScope s_law_one_right)) (by decide +kernel)) (fun _ _ _ _ _ => (sg_name (pg_name (i := 15) sc_law_one_right.nd rfl (by first | exact .inl rfl | exact .inr rfl)))) (fun _ _ _ _ _ => (sts_one (st_cmp op_notIn_seq (c2_in true) (sp_var (pv 15)) (sp_var (pv 14)) (by rfl)))) (fun _ _ _ _ _ => (se_var (pv 15))) (by decide)))
  (ss_cons (s_if (SW.st (sw_and (st_cmp (op_neD hr.units) c2_ne (SE.sp (se_ix ix_seq o2_ix (sp_var (pv 6)) (SE.sp se_int) (fun _ _ => rfl))) (SE.sp se_int) (nomark _)) (sw_and1 (st_cmp (op_neD hr.units) c2_ne (sp_var (pv 6)) (SE.sp (se_tup (sa_cons se_int (sa_cons se_int sa_nil)))) (nomark _)))))
  (ss_cons (s_asg (ps_set (i := 11) sc_law_one_right.nd rfl (by first | exact .inl rfl | exact .inr rfl) (SE.pe (se_tup (sa_cons (se_var (pv 6)) (sa_cons (se_cG c_law_plus hG hr (by decide) (by rfl) (sa_cons (se_tup (sa_cons se_int (sa_cons se_int sa_nil))) (sa_cons (se_tup (sa_cons (se_op op_sub o2_sub (SE.sp se_int) (SE.sp (se_ix ix_seq o2_ix (sp_var (pv 6)) (SE.sp se_int) (fun _ _ => rfl)))) (sa_cons (se_ix ix_seq o2_ix (sp_var (pv 6)) (SE.sp se_int) (fun _ _ => rfl)) sa_nil))) sa_nil))) sa_nil))))) (fun _ _ _ h => h))
  (ss_one (s_if (st_cmp (op_neD hr.units) c2_ne (SE.sp (se_cG c_mixed hG hr (by decide) (by rfl) (sa_cons (se_var (pv 11)) (sa_cons (SL.se (sl_lst (sa_cons (se_cG c_given_that hG hr (by decide) (by rfl) (sa_cons (se_var (pv 1)) (sa_cons (se_var (pv 14)) sa_nil))) (sa_cons (se_cG c_given_that hG hr (by decide) (by rfl) (sa_cons (se_var (pv 1)) (sa_cons (se_var (pv 10)) sa_nil))) sa_nil)))) sa_nil)))) (sp_var (pv 1)) (nomark _))
  (ss_one (s_ret se_bl))
  ss_nil)))
  ss_nil)
  (ss_cons (s_asgG (ps_asg (SE.pe (se_cG c_parts hG hr (by decide) (by rfl) (sa_cons (se_var (pv 1)) sa_nil))) (SG.pg (sg_tup rfl (sgs_cons (sg_name (pg_name (i := 12) sc_law_one_right.nd rfl (by first | exact .inl rfl | exact .inr rfl))) (sgs_cons (sg_name (pg_name (i := 13) sc_law_one_right.nd rfl (by first | exact .inl rfl | exact .inr rfl))) sgs_nil))))) (fun _ _ _ h => h) (fun _ _ _ _ h => h))
  (ss_cons (s_if (SW.st (sw_or (st_cmp (op_neD hr.units) c2_ne (SE.sp (se_bi (cr_repr hG hr.units) f1_repr (by rfl) nb.b_repr (by decide +kernel) (spa_cons (SE.sp (se_kG ck_parts_lot hG hr (by decide) (by rfl) (sk_cons (se_var (pv 1)) sk_nil))) spa_nil))) (SE.sp (se_bi (cr_repr hG hr.units) f1_repr (by rfl) nb.b_repr (by decide +kernel) (spa_cons (SE.sp (se_tup (sa_cons (se_var (pv 12)) (sa_cons (se_var (pv 13)) sa_nil)))) spa_nil))) (nomark _)) (sw_or1 (st_cmp (op_neD hr.units) c2_ne (SE.sp (SL.se (sl_lc (own := [("top", 18)]) rfl sc_law_one_right.nd (sip_seq (sp_var (pv 12))) (blkOk_by (N := N_law_one_right) (sc := (defScope s_law_one_right)) (by decide +kernel)) (fun _ _ _ _ _ => (sg_name (pg_name (i := 18) sc_law_one_right.nd rfl (by first | exact .inl rfl | exact .inr rfl)))) (fun _ _ _ _ _ => sts_nil) (fun _ _ _ _ _ => (se_cG c_law_plain hG hr (by decide) (by rfl) (sa_cons (se_var (pv 18)) (sa_cons (se_var (pv 13)) sa_nil)))) (by decide)))) (SE.sp (SL.se (sl_list (by rfl) nb.b_list (sp_var (pv 1))))) (nomark _)))))
  (ss_one (s_ret se_bl))
  ss_nil)
  (ss_cons (s_if (st_val (SE.sp (se_bi (cr_any rfl) f1_any (by rfl) nb.b_any (by decide +kernel) (spa_cons (SE.sp (SL.se (sl_lc (own := [("late", 7)]) rfl sc_law_one_right.nd (sip_seq (SE.sp (se_tup (sa_cons se_int (sa_cons se_int (sa_cons se_int (sa_cons se_int (sa_cons se_int (sa_cons se_int sa_nil))))))))) (blkOk_by (N := N_law_one_right) (sc := (defScope s_law_one_right)) (by decide +kernel)) (fun _ _ _ _ _ => (sg_name (pg_name (i := 7) sc_law_one_right.nd rfl (by first | exact .inl rfl | exact .inr rfl)))) (fun _ _ _ _ _ => sts_nil) (fun _ _ _ _ _ => (se_bi (cr_all rfl) f1_all (by rfl) nb.b_all (by decide +kernel) (spa_cons (SE.sp (SL.se (sl_lc (own := [("top", 18)]) rfl sc_law_one_right.nd (sip_seq (SE.sp (se_op or_add o2_add (sp_var (pv 12)) (SE.sp (se_tup (sa_cons (se_var (pv 13)) sa_nil)))))) (blkOk_by (N := N_law_one_right) (sc := (relS _ (defScope s_law_one_right))) (by decide +kernel)) (fun _ _ _ _ _ => (sg_name (pg_name (i := 18) sc_law_one_right.nd rfl (by first | exact .inl rfl | exact .inr rfl)))) (fun _ _ _ _ _ => sts_nil) (fun _ _ _ _ _ => (se_cmp (op_eqD hr.units) c2_eq (SE.sp (se_op op_mod o2_mod (SE.sp (se_bt call_int1 f1_int (by rfl) nb.b_int (by decide +kernel) (spa_cons (sp_var (pv 18)) spa_nil))) (sp_var (pv 7)))) (SE.sp se_int) (nomark _))) (by decide)))) spa_nil))) (by decide)))) spa_nil))))
  (ss_one (s_ret se_bl))
  ss_nil)
  (ss_one (s_ret (se_cmp (op_eqD hr.units) c2_eq (SE.sp (se_bi (cr_repr hG hr.units) f1_repr (by rfl) nb.b_repr (by decide +kernel) (spa_cons (sp_var (pv 1)) spa_nil))) (sp_var (pv 3)) (nomark _))))))))))))))))))))))))
theorem ok_is_count (c_is_integer : CalG P w K mg base 1 "is_integer" f_is_integer) : ∀ f fd, Fun K "is_count" "is_count" s_is_count f fd → FnG P w K mg base 2 f fd ["value"] (spF K f_is_count) := fun f fd F => def_okG (m := b_is_count) 1 1 F sc_is_count rfl rfl fun cdv A outer s H E hcv hG hr =>
  (ss_one (s_ret (se_and (se_cG c_is_integer hG hr (by decide) (by rfl) (sa_cons (se_var (pv 0)) sa_nil)) (se_one (se_cmp op_ge c2_int (sp_var (pv 0)) (SE.sp se_int) (nomark _))))))
theorem ok_check_number (c_is_within : CalG P w K mg base 2 "is_within" f_is_within) : ∀ f fd, Fun K "check_number" "check_number" s_check_number f fd → FnG P w K mg base 3 f fd ["value", "least", "most"] (spF K f_check_number) := fun f fd F => def_okG (m := b_check_number) 3 3 F sc_check_number rfl rfl fun cdv A outer s H E hcv hG hr =>
  (ss_one (s_if (st_not (st_val (SE.sp (se_cG c_is_within hG hr (by decide) (by rfl) (sa_cons (se_var (pv 0)) (sa_cons (se_var (pv 1)) (sa_cons (se_var (pv 2)) sa_nil)))))))
  (ss_one s_never)
  ss_nil))
theorem ok_moved_of (c_add : CalG P w K mg base 3 "add" f_add) (k_NOUGHT : ConR K mg "NOUGHT" (.tup [(.int 0), (.int 1)])) (nb : Nb mg) : ∀ f fd, Fun K "moved_of" "moved_of" s_moved_of f fd → FnG P w K mg base 4 f fd ["lot", "target", "many"] (spF K f_moved_of) := fun f fd F => def_okG (m := b_moved_of) 3 6 F sc_moved_of rfl rfl fun cdv A outer s H E hcv hG hr =>
  (ss_cons (s_own (ps_set (i := 3) sc_moved_of.nd rfl (by first | exact .inl rfl | exact .inr rfl) (SL.pe (sl_rep (SE.sp (SL.se (sl_lst (sa_cons (se_con k_NOUGHT (by rfl)) sa_nil)))) (sp_var (pv 2))))) (fun _ _ _ h => h))
  (ss_cons (s_for PassesOwn.never rfl (si_zip (by rfl) nb.b_zip (se_var (pv 0)) (se_var (pv 1))) (sg_tup rfl (sgs_cons (sg_name (pg_name (i := 4) sc_moved_of.nd rfl (by first | exact .inl rfl | exact .inr rfl))) (sgs_cons (sg_name (pg_name (i := 5) sc_moved_of.nd rfl (by first | exact .inl rfl | exact .inr rfl))) sgs_nil)))
  (ss_one (s_store (se_cG c_add hG hr (by decide) (by rfl) (sa_cons (se_ix ix_seq o2_ix (sp_var (pv 3)) (sp_var (pv 5)) (fun _ _ => rfl)) (sa_cons (se_var (pv 4)) sa_nil))) (pg_sub (pv 3) (SP.pe (sp_var (pv 5))) set_list))))
  (ss_one (s_ret (se_bt call_tuple_of f1_tuple (by rfl) nb.b_tuple (by decide +kernel) (spa_cons (sp_var (pv 3)) spa_nil))))))
theorem ok_moved (c_check_lot : CalG P w K mg base 7 "check_lot" f_check_lot) (c_is_list : CalG P w K mg base 1 "is_list" f_is_list) (c_is_count : CalG P w K mg base 2 "is_count" f_is_count) (c_check_number : CalG P w K mg base 3 "check_number" f_check_number) (c_moved_of : CalG P w K mg base 4 "moved_of" f_moved_of) (k_MOST_PLACES : ConR K mg "MOST_PLACES" (.int 8)) (nb : Nb mg) : ∀ f fd, Fun K "moved" "moved" s_moved f fd → FnG P w K mg base 8 f fd ["lot", "target", "many"] (spF K f_moved) := fun f fd F => def_okG (m := b_moved) 3 4 F sc_moved rfl rfl fun cdv A outer s H E hcv hG hr =>
  (ss_cons (s_expr (se_cG c_check_lot hG hr (by decide) (by rfl) (sa_cons (se_var (pv 0)) sa_nil)))
  (ss_cons (s_if (SW.st (sw_or (st_not (st_val (SE.sp (se_cG c_is_list hG hr (by decide) (by rfl) (sa_cons (se_var (pv 1)) sa_nil))))) (sw_or (st_cmp (op_neD hr.units) c2_ne (SE.sp (se_bi cr_len f1_len (by rfl) nb.b_len (by decide +kernel) (spa_cons (sp_var (pv 1)) spa_nil))) (SE.sp (se_bi cr_len f1_len (by rfl) nb.b_len (by decide +kernel) (spa_cons (sp_var (pv 0)) spa_nil))) (nomark _)) (sw_or1 (st_not (st_val (SE.sp (se_bi (cr_all rfl) f1_all (by rfl) nb.b_all (by decide +kernel) (spa_cons (SE.sp (SL.se (sl_lc (own := [("one", 3)]) rfl sc_moved.nd (sip_seq (sp_var (pv 1))) (blkOk_by (N := N_moved) (sc := (defScope s_moved)) (by decide +kernel)) (fun _ _ _ _ _ => (sg_name (pg_name (i := 3) sc_moved.nd rfl (by first | exact .inl rfl | exact .inr rfl)))) (fun _ _ _ _ _ => sts_nil) (fun _ _ _ _ _ => (se_cG c_is_count hG hr (by decide) (by rfl) (sa_cons (se_var (pv 3)) sa_nil))) (by decide)))) spa_nil)))))))))
  (ss_one s_never)
  ss_nil)
  (ss_cons (s_expr (se_cG c_check_number hG hr (by decide) (by rfl) (sa_cons (se_var (pv 2)) (sa_cons se_int (sa_cons (se_con k_MOST_PLACES (by rfl)) sa_nil)))))
  (ss_cons (s_if (st_not (st_val (SE.sp (se_bi (cr_all rfl) f1_all (by rfl) nb.b_all (by decide +kernel) (spa_cons (SE.sp (SL.se (sl_lc (own := [("one", 3)]) rfl sc_moved.nd (sip_seq (sp_var (pv 1))) (blkOk_by (N := N_moved) (sc := (defScope s_moved)) (by decide +kernel)) (fun _ _ _ _ _ => (sg_name (pg_name (i := 3) sc_moved.nd rfl (by first | exact .inl rfl | exact .inr rfl)))) (fun _ _ _ _ _ => sts_nil) (fun _ _ _ _ _ => (se_cmp op_lt c2_int (sp_var (pv 3)) (sp_var (pv 2)) (nomark _))) (by decide)))) spa_nil)))))
  (ss_one s_never)
  ss_nil)
  (ss_one (s_ret (se_cG c_moved_of hG hr (by decide) (by rfl) (sa_cons (se_var (pv 0)) (sa_cons (se_var (pv 1)) (sa_cons (se_var (pv 2)) sa_nil))))))))))
theorem ok_law_moved_right (c_law_draw : CalG P w K mg base 1 "_law_draw" f_law_draw) (c_law_total : CalG P w K mg base 3 "_law_total" f_law_total) (c_moved : CalG P w K mg base 8 "moved" f_moved) (c_law_fraction : CalG P w K mg base 2 "_law_fraction" f_law_fraction) (c_is_lot : CalG P w K mg base 6 "is_lot" f_is_lot) (c_mean : CalG P w K mg base 8 "mean" f_mean) (ck_moved_many_target_lot : CalKG P w K mg base 8 "moved" f_moved ["many", "target", "lot"] [2, 1, 0]) (nb : Nb mg) : ∀ f fd, Fun K "_law_moved_right" "_law_moved_right" s_law_moved_right f fd → FnG P w K mg base 9 f fd ["pot", "lot"] (spF K f_law_moved_right) := fun f fd F => def_okG (m := b_law_moved_right) 2 9 F sc_law_moved_right rfl rfl fun cdv A outer s H E hcv hG hr =>
  (ss_cons (s_asg (ps_set (i := 2) sc_law_moved_right.nd rfl (by first | exact .inl rfl | exact .inr rfl) (SE.pe (se_op or_add o2_add (SE.sp se_int) (SE.sp (se_cG c_law_draw hG hr (by decide) (by rfl) (sa_cons (se_var (pv 0)) (sa_cons se_int sa_nil))))))) (fun _ _ _ h => h))
  (ss_cons (s_asg (ps_set (i := 3) sc_law_moved_right.nd rfl (by first | exact .inl rfl | exact .inr rfl) (SE.pe (SL.se (sl_lc (own := [("place", 6)]) rfl sc_law_moved_right.nd (sip_seq (sp_var (pv 1))) (blkOk_by (N := N_law_moved_right) (sc := (defScope s_law_moved_right)) (by decide +kernel)) (fun _ _ _ _ _ => (sg_name (pg_name (i := 6) sc_law_moved_right.nd rfl (by first | exact .inl rfl | exact .inr rfl)))) (fun _ _ _ _ _ => sts_nil) (fun _ _ _ _ _ => (se_cG c_law_draw hG hr (by decide) (by rfl) (sa_cons (se_var (pv 0)) (sa_cons (se_var (pv 2)) sa_nil)))) (by decide))))) (fun _ _ _ h => h))
  (ss_cons (s_asg (ps_set (i := 4) sc_law_moved_right.nd rfl (by first | exact .inl rfl | exact .inr rfl) (SE.pe (se_bt call_tuple_of f1_tuple (by rfl) nb.b_tuple (by decide +kernel) (spa_cons (SE.sp (SL.se (sl_lc (own := [("place", 6)]) rfl sc_law_moved_right.nd (SI.sip (si_range1 (by rfl) nb.b_range (sp_var (pv 2)))) (blkOk_by (N := N_law_moved_right) (sc := (defScope s_law_moved_right)) (by decide +kernel)) (fun _ _ _ _ _ => (sg_name (pg_name (i := 6) sc_law_moved_right.nd rfl (by first | exact .inl rfl | exact .inr rfl)))) (fun _ _ _ _ _ => sts_nil) (fun _ _ _ _ _ => (se_cG c_law_total hG hr (by decide) (by rfl) (sa_cons (SL.se (sl_lc (own := [("one", 7), ("at", 8)]) rfl sc_law_moved_right.nd (sip_zip (by rfl) nb.b_zip (sp_var (pv 1)) (sp_var (pv 3))) (blkOk_by (N := N_law_moved_right) (sc := (relS _ (defScope s_law_moved_right))) (by decide +kernel)) (fun _ _ _ _ _ => (sg_tup rfl (sgs_cons (sg_name (pg_name (i := 7) sc_law_moved_right.nd rfl (by first | exact .inl rfl | exact .inr rfl))) (sgs_cons (sg_name (pg_name (i := 8) sc_law_moved_right.nd rfl (by first | exact .inl rfl | exact .inr rfl))) sgs_nil)))) (fun _ _ _ _ _ => (sts_one (st_cmp (op_eqD hr.units) c2_eq (sp_var (pv 8)) (sp_var (pv 6)) (nomark _)))) (fun _ _ _ _ _ => (se_var (pv 7))) (by decide))) sa_nil))) (by decide)))) spa_nil)))) (fun _ _ _ h => h))
  (ss_cons (s_if (st_cmp (op_neD hr.units) c2_ne (SE.sp (se_bi (cr_repr hG hr.units) f1_repr (by rfl) nb.b_repr (by decide +kernel) (spa_cons (SE.sp (SL.se (sl_lst (sa_cons (se_cG c_moved hG hr (by decide) (by rfl) (sa_cons (se_var (pv 1)) (sa_cons (se_var (pv 3)) (sa_cons (se_var (pv 2)) sa_nil)))) (sa_cons (se_kG ck_moved_many_target_lot hG hr (by decide) (by rfl) (sk_cons (se_var (pv 2)) (sk_cons (se_bt call_tuple_of f1_tuple (by rfl) nb.b_tuple (by decide +kernel) (spa_cons (sp_var (pv 3)) spa_nil)) (sk_cons (se_var (pv 1)) sk_nil)))) sa_nil))))) spa_nil))) (SE.sp (se_bi (cr_repr hG hr.units) f1_repr (by rfl) nb.b_repr (by decide +kernel) (spa_cons (SE.sp (SL.se (sl_lst (sa_cons (se_var (pv 4)) (sa_cons (se_var (pv 4)) sa_nil))))) spa_nil))) (nomark _))
  (ss_one (s_ret se_bl))
  ss_nil)
  (ss_cons (s_asg (ps_set (i := 5) sc_law_moved_right.nd rfl (by first | exact .inl rfl | exact .inr rfl) (SE.pe (SL.se (sl_lc (own := [("place", 6)]) rfl sc_law_moved_right.nd (SI.sip (si_range1 (by rfl) nb.b_range (sp_var (pv 2)))) (blkOk_by (N := N_law_moved_right) (sc := (defScope s_law_moved_right)) (by decide +kernel)) (fun _ _ _ _ _ => (sg_name (pg_name (i := 6) sc_law_moved_right.nd rfl (by first | exact .inl rfl | exact .inr rfl)))) (fun _ _ _ _ _ => sts_nil) (fun _ _ _ _ _ => (se_cG c_law_fraction hG hr (by decide) (by rfl) (sa_cons (se_var (pv 0)) (sa_cons se_int sa_nil)))) (by decide))))) (fun _ _ _ h => h))
  (ss_one (s_ret (se_and (se_cG c_is_lot hG hr (by decide) (by rfl) (sa_cons (se_var (pv 4)) sa_nil)) (se_one (se_cmp (op_eqD hr.units) c2_eq (SE.sp (se_cG c_mean hG hr (by decide) (by rfl) (sa_cons (se_var (pv 4)) (sa_cons (se_var (pv 5)) sa_nil)))) (SE.sp (se_cG c_mean hG hr (by decide) (by rfl) (sa_cons (se_var (pv 1)) (sa_cons (SL.se (sl_lc (own := [("at", 8)]) rfl sc_law_moved_right.nd (sip_seq (sp_var (pv 3))) (blkOk_by (N := N_law_moved_right) (sc := (defScope s_law_moved_right)) (by decide +kernel)) (fun _ _ _ _ _ => (sg_name (pg_name (i := 8) sc_law_moved_right.nd rfl (by first | exact .inl rfl | exact .inr rfl)))) (fun _ _ _ _ _ => sts_nil) (fun _ _ _ _ _ => (se_ix ix_seq o2_ix (sp_var (pv 5)) (sp_var (pv 8)) (fun _ _ => rfl))) (by decide))) sa_nil)))) (nomark _)))))))))))
theorem ok_law_pick (c_law_draw : CalG P w K mg base 1 "_law_draw" f_law_draw) (nb : Nb mg) : ∀ f fd, Fun K "_law_pick" "_law_pick" s_law_pick f fd → FnG P w K mg base 2 f fd ["pot", "some"] (spF K f_law_pick) := fun f fd F => def_okG (m := b_law_pick) 2 2 F sc_law_pick rfl rfl fun cdv A outer s H E hcv hG hr =>
  (ss_one (s_ret (se_ix ix_seq o2_ix (sp_var (pv 1)) (SE.sp (se_cG c_law_draw hG hr (by decide) (by rfl) (sa_cons (se_var (pv 0)) (sa_cons (se_bi cr_len f1_len (by rfl) nb.b_len (by decide +kernel) (spa_cons (sp_var (pv 1)) spa_nil)) sa_nil)))) (fun _ _ => rfl))))
theorem ok_law_right (c_beside : CalG P w K mg base 9 "beside" f_beside) (c_law_total : CalG P w K mg base 3 "_law_total" f_law_total) (c_law_times : CalG P w K mg base 2 "_law_times" f_law_times) (c_law_lot : CalG P w K mg base 2 "_law_lot" f_law_lot) (c_law_draw : CalG P w K mg base 1 "_law_draw" f_law_draw) (c_mixed : CalG P w K mg base 8 "mixed" f_mixed) (c_is_lot : CalG P w K mg base 6 "is_lot" f_is_lot) (c_law_mean : CalG P w K mg base 4 "_law_mean" f_law_mean) (c_law_one_right : CalG P w K mg base 11 "_law_one_right" f_law_one_right) (c_law_moved_right : CalG P w K mg base 9 "_law_moved_right" f_law_moved_right) (c_law_pick : CalG P w K mg base 2 "_law_pick" f_law_pick) (cn_beside : CalN P w K mg base 9 1 "beside" f_beside) (ck_beside_other_lot : CalKG P w K mg base 9 "beside" f_beside ["other", "lot"] [1, 0]) (ck_mixed_lots_weights : CalKG P w K mg base 8 "mixed" f_mixed ["lots", "weights"] [1, 0]) (nb : Nb mg) : ∀ f fd, Fun K "_law_right" "_law_right" s_law_right f fd → FnG P w K mg base 12 f fd ["pot"] (spF K f_law_right) := fun f fd F => def_okG (m := b_law_right) 1 16 F sc_law_right rfl rfl fun cdv A outer s H E hcv hG hr =>
  (ss_cons (s_asgG (ps_asg (SE.pe (se_tup (sa_cons (se_op or_add o2_add (SE.sp se_int) (SE.sp (se_cG c_law_draw hG hr (by decide) (by rfl) (sa_cons (se_var (pv 0)) (sa_cons se_int sa_nil))))) (sa_cons (se_op or_add o2_add (SE.sp se_int) (SE.sp (se_cG c_law_draw hG hr (by decide) (by rfl) (sa_cons (se_var (pv 0)) (sa_cons se_int sa_nil))))) sa_nil)))) (SG.pg (sg_tup rfl (sgs_cons (sg_name (pg_name (i := 1) sc_law_right.nd rfl (by first | exact .inl rfl | exact .inr rfl))) (sgs_cons (sg_name (pg_name (i := 2) sc_law_right.nd rfl (by first | exact .inl rfl | exact .inr rfl))) sgs_nil))))) (fun _ _ _ h => h) (fun _ _ _ _ h => h))
  (ss_cons (s_asg (ps_set (i := 3) sc_law_right.nd rfl (by first | exact .inl rfl | exact .inr rfl) (SE.pe (SL.se (sl_lc (own := [("turn", 9)]) rfl sc_law_right.nd (SI.sip (si_range1 (by rfl) nb.b_range (sp_var (pv 2)))) (blkOk_by (N := N_law_right) (sc := (defScope s_law_right)) (by decide +kernel)) (fun _ _ _ _ _ => (sg_name (pg_name (i := 9) sc_law_right.nd rfl (by first | exact .inl rfl | exact .inr rfl)))) (fun _ _ _ _ _ => sts_nil) (fun _ _ _ _ _ => (se_cG c_law_lot hG hr (by decide) (by rfl) (sa_cons (se_var (pv 0)) (sa_cons (se_var (pv 1)) (sa_cons (se_cG c_law_pick hG hr (by decide) (by rfl) (sa_cons (se_var (pv 0)) (sa_cons (SL.se (sl_lst (sa_cons se_int (sa_cons se_int (sa_cons se_int sa_nil))))) sa_nil))) sa_nil))))) (by decide))))) (fun _ _ _ h => h))
  (ss_cons (s_if (st_not (st_val (SE.sp (se_bi (cr_all rfl) f1_all (by rfl) nb.b_all (by decide +kernel) (spa_cons (SE.sp (SL.se (sl_lc (own := [("lot", 14)]) rfl sc_law_right.nd (sip_seq (SE.sp (se_cut (sp_var (pv 3)) so_none (so_some (SE.sp se_int))))) (blkOk_by (N := N_law_right) (sc := (defScope s_law_right)) (by decide +kernel)) (fun _ _ _ _ _ => (sg_name (pg_name (i := 14) sc_law_right.nd rfl (by first | exact .inl rfl | exact .inr rfl)))) (fun _ _ _ _ _ => sts_nil) (fun _ _ _ _ _ => (se_and (se_cG c_law_one_right hG hr (by decide) (by rfl) (sa_cons (se_var (pv 0)) (sa_cons (se_var (pv 14)) sa_nil))) (se_one (se_cG c_law_moved_right hG hr (by decide) (by rfl) (sa_cons (se_var (pv 0)) (sa_cons (se_var (pv 14)) sa_nil)))))) (by decide)))) spa_nil)))))
  (ss_one (s_ret se_bl))
  ss_nil)
  (ss_cons (s_asg (ps_set (i := 4) sc_law_right.nd rfl (by first | exact .inl rfl | exact .inr rfl) (SE.pe (se_cG c_law_lot hG hr (by decide) (by rfl) (sa_cons (se_var (pv 0)) (sa_cons (se_var (pv 2)) (sa_cons se_int sa_nil)))))) (fun _ _ _ h => h))
  (ss_cons (s_asg (ps_set (i := 5) sc_law_right.nd rfl (by first | exact .inl rfl | exact .inr rfl) (SE.pe (se_bt call_tuple_of f1_tuple (by rfl) nb.b_tuple (by decide +kernel) (spa_cons (SE.sp (SL.se (sl_lc (own := [("place", 11)]) rfl sc_law_right.nd (SI.sip (si_range1 (by rfl) nb.b_range (sp_var (pv 1)))) (blkOk_by (N := N_law_right) (sc := (defScope s_law_right)) (by decide +kernel)) (fun _ _ _ _ _ => (sg_name (pg_name (i := 11) sc_law_right.nd rfl (by first | exact .inl rfl | exact .inr rfl)))) (fun _ _ _ _ _ => sts_nil) (fun _ _ _ _ _ => (se_cG c_law_mean hG hr (by decide) (by rfl) (sa_cons (se_var (pv 4)) (sa_cons (SL.se (sl_lc (own := [("lot", 14)]) rfl sc_law_right.nd (sip_seq (sp_var (pv 3))) (blkOk_by (N := N_law_right) (sc := (relS _ (defScope s_law_right))) (by decide +kernel)) (fun _ _ _ _ _ => (sg_name (pg_name (i := 14) sc_law_right.nd rfl (by first | exact .inl rfl | exact .inr rfl)))) (fun _ _ _ _ _ => sts_nil) (fun _ _ _ _ _ => (se_ix ix_seq o2_ix (sp_var (pv 14)) (sp_var (pv 11)) (fun _ _ => rfl))) (by decide))) sa_nil)))) (by decide)))) spa_nil)))) (fun _ _ _ h => h))
  (ss_cons (s_if (SW.st (sw_or (st_cmp (op_neD hr.units) c2_ne (SE.sp (se_bi (cr_repr hG hr.units) f1_repr (by rfl) nb.b_repr (by decide +kernel) (spa_cons (SE.sp (SL.se (sl_lst (sa_cons (se_cG c_mixed hG hr (by decide) (by rfl) (sa_cons (se_var (pv 4)) (sa_cons (se_var (pv 3)) sa_nil))) (sa_cons (se_kG ck_mixed_lots_weights hG hr (by decide) (by rfl) (sk_cons (se_bt call_tuple_of f1_tuple (by rfl) nb.b_tuple (by decide +kernel) (spa_cons (sp_var (pv 3)) spa_nil)) (sk_cons (se_var (pv 4)) sk_nil))) sa_nil))))) spa_nil))) (SE.sp (se_bi (cr_repr hG hr.units) f1_repr (by rfl) nb.b_repr (by decide +kernel) (spa_cons (SE.sp (SL.se (sl_lst (sa_cons (se_var (pv 5)) (sa_cons (se_var (pv 5)) sa_nil))))) spa_nil))) (nomark _)) (sw_or1 (st_not (st_val (SE.sp (se_cG c_is_lot hG hr (by decide) (by rfl) (sa_cons (se_var (pv 5)) sa_nil))))))))
  (ss_one (s_ret se_bl))
  ss_nil)
  (ss_cons (s_asgG (ps_asg (SE.pe (se_tup (sa_cons (se_ix ix_seq o2_ix (sp_var (pv 3)) (SE.sp se_int) (fun _ _ => rfl)) (sa_cons (se_cG c_law_lot hG hr (by decide) (by rfl) (sa_cons (se_var (pv 0)) (sa_cons (se_op or_add o2_add (SE.sp se_int) (SE.sp (se_cG c_law_draw hG hr (by decide) (by rfl) (sa_cons (se_var (pv 0)) (sa_cons se_int sa_nil))))) (sa_cons se_int sa_nil)))) sa_nil)))) (SG.pg (sg_tup rfl (sgs_cons (sg_name (pg_name (i := 6) sc_law_right.nd rfl (by first | exact .inl rfl | exact .inr rfl))) (sgs_cons (sg_name (pg_name (i := 7) sc_law_right.nd rfl (by first | exact .inl rfl | exact .inr rfl))) sgs_nil))))) (fun _ _ _ h => h) (fun _ _ _ _ h => h))
  (ss_cons (s_asg (ps_set (i := 5) sc_law_right.nd rfl (by first | exact .inl rfl | exact .inr rfl) (SE.pe (SL.se (sl_lc (own := [("near", 10)]) rfl sc_law_right.nd (sip_seq (sp_var (pv 6))) (blkOk_by (N := N_law_right) (sc := (defScope s_law_right)) (by decide +kernel)) (fun _ _ _ _ _ => (sg_name (pg_name (i := 10) sc_law_right.nd rfl (by first | exact .inl rfl | exact .inr rfl)))) (fun _ _ _ _ _ => sts_nil) (fun _ _ _ _ _ => (SL.se (sl_lc (own := [("far", 12)]) rfl sc_law_right.nd (sip_seq (sp_var (pv 7))) (blkOk_by (N := N_law_right) (sc := (relS _ (defScope s_law_right))) (by decide +kernel)) (fun _ _ _ _ _ => (sg_name (pg_name (i := 12) sc_law_right.nd rfl (by first | exact .inl rfl | exact .inr rfl)))) (fun _ _ _ _ _ => sts_nil) (fun _ _ _ _ _ => (se_cG c_law_times hG hr (by decide) (by rfl) (sa_cons (se_var (pv 10)) (sa_cons (se_var (pv 12)) sa_nil)))) (by decide)))) (by decide))))) (fun _ _ _ h => h))
  (s_told0 (i := 8) sc_law_right.nd rfl (by first | exact .inl rfl | exact .inr rfl) (by first | exact .inl rfl | exact .inr rfl) (sen_call cn_beside hG hr (by decide) (by rfl) (sa_cons (se_var (pv 6)) (sa_cons (se_var (pv 7)) sa_nil))) (pv 8) (st_cmp (op_neD hr.units) c2_ne (SE.sp (se_bi (cr_repr hG hr.units) f1_repr (by rfl) nb.b_repr (by decide +kernel) (spa_cons (SE.sp (SL.se (sl_lst (sa_cons (se_var (pv 8)) (sa_cons (se_kG ck_beside_other_lot hG hr (by decide) (by rfl) (sk_cons (se_var (pv 7)) (sk_cons (se_var (pv 6)) sk_nil))) sa_nil))))) spa_nil))) (SE.sp (se_bi (cr_repr hG hr.units) f1_repr (by rfl) nb.b_repr (by decide +kernel) (spa_cons (SE.sp (SL.se (sl_lst (sa_cons (se_var (pv 5)) (sa_cons (se_var (pv 5)) sa_nil))))) spa_nil))) (nomark _)) pe_bl pe_non
  (ss_cons (s_if (SW.st (sw_or (st_cmp (op_neD hr.units) c2_ne (SE.sp (se_bi (cr_repr hG hr.units) f1_repr (by rfl) nb.b_repr (by decide +kernel) (spa_cons (SE.sp (se_cG c_beside hG hr (by decide) (by rfl) (sa_cons (se_var (pv 6)) (sa_cons (se_var (pv 7)) sa_nil)))) spa_nil))) (SE.sp (se_bi (cr_repr hG hr.units) f1_repr (by rfl) nb.b_repr (by decide +kernel) (spa_cons (sp_var (pv 5)) spa_nil))) (nomark _)) (sw_or1 (st_cmp (op_neD hr.units) c2_ne (SE.sp (SL.se (sl_lc (own := [("row", 15)]) rfl sc_law_right.nd (sip_seq (sp_var (pv 5))) (blkOk_by (N := N_law_right) (sc := (defScope s_law_right)) (by decide +kernel)) (fun _ _ _ _ _ => (sg_name (pg_name (i := 15) sc_law_right.nd rfl (by first | exact .inl rfl | exact .inr rfl)))) (fun _ _ _ _ _ => sts_nil) (fun _ _ _ _ _ => (se_cG c_law_total hG hr (by decide) (by rfl) (sa_cons (se_var (pv 15)) sa_nil))) (by decide)))) (SE.sp (SL.se (sl_list (by rfl) nb.b_list (sp_var (pv 6))))) (nomark _)))))
  (ss_one (s_ret se_bl))
  ss_nil)
  (ss_one (s_ret (se_cmp (op_eqD hr.units) c2_eq (SE.sp (SL.se (sl_lc (own := [("at", 13)]) rfl sc_law_right.nd (SI.sip (si_range1 (by rfl) nb.b_range (SE.sp (se_bi cr_len f1_len (by rfl) nb.b_len (by decide +kernel) (spa_cons (sp_var (pv 7)) spa_nil))))) (blkOk_by (N := N_law_right) (sc := (defScope s_law_right)) (by decide +kernel)) (fun _ _ _ _ _ => (sg_name (pg_name (i := 13) sc_law_right.nd rfl (by first | exact .inl rfl | exact .inr rfl)))) (fun _ _ _ _ _ => sts_nil) (fun _ _ _ _ _ => (se_cG c_law_total hG hr (by decide) (by rfl) (sa_cons (SL.se (sl_lc (own := [("row", 15)]) rfl sc_law_right.nd (sip_seq (sp_var (pv 5))) (blkOk_by (N := N_law_right) (sc := (relS _ (defScope s_law_right))) (by decide +kernel)) (fun _ _ _ _ _ => (sg_name (pg_name (i := 15) sc_law_right.nd rfl (by first | exact .inl rfl | exact .inr rfl)))) (fun _ _ _ _ _ => sts_nil) (fun _ _ _ _ _ => (se_ix ix_seq o2_ix (sp_var (pv 15)) (sp_var (pv 13)) (fun _ _ => rfl))) (by decide))) sa_nil))) (by decide)))) (SE.sp (SL.se (sl_list (by rfl) nb.b_list (sp_var (pv 7))))) (nomark _))))))))))))))
theorem ok_law_pot (nb : Nb mg) : ∀ f fd, Fun K "_law_pot" "_law_pot" s_law_pot f fd → FnG P w K mg base 1 f fd ["script", "k"] (spF K f_law_pot) := fun f fd F => def_okG (m := b_law_pot) 2 3 F sc_law_pot rfl rfl fun cdv A outer s H E hcv hG hr =>
  (ss_cons (s_asg (ps_set (i := 2) sc_law_pot.nd rfl (by first | exact .inl rfl | exact .inr rfl) (SE.pe (se_op or_add o2_add (SE.sp (se_op or_mul o2_mul (SE.sp se_int) (sp_var (pv 1)))) (SE.sp se_int)))) (fun _ _ _ h => h))
  (ss_cons (s_if (st_cmp op_lt c2_int (sp_var (pv 1)) (SE.sp (se_bi cr_len f1_len (by rfl) nb.b_len (by decide +kernel) (spa_cons (sp_var (pv 0)) spa_nil))) (nomark _))
  (ss_one (s_asg (ps_set (i := 2) sc_law_pot.nd rfl (by first | exact .inl rfl | exact .inr rfl) (SE.pe (se_bi call_abs f1_abs (by rfl) nb.b_abs (by decide +kernel) (spa_cons (SE.sp (se_ix ix_seq o2_ix (sp_var (pv 0)) (sp_var (pv 1)) (fun _ _ => rfl))) spa_nil)))) (fun _ _ _ h => h)))
  ss_nil)
  (ss_one (s_retpot (sl_lst (sa_cons (se_bi (call_max2 rfl) f1_max2 (by rfl) nb.b_max (by decide +kernel) (spa_cons (SE.sp se_int) (spa_cons (SE.sp (se_op op_sub o2_sub (sp_var (pv 2)) (SE.sp (se_op op_pow o2_pow (SE.sp se_int) (SE.sp se_int))))) spa_nil))) (sa_cons (se_op or_add o2_add (SE.sp (se_op op_mod o2_mod (SE.sp (se_bt call_int1 f1_int (by rfl) nb.b_int (by decide +kernel) (spa_cons (SE.sp (se_op or_add o2_add (SE.sp (se_op or_add o2_add (SE.sp (se_op or_mul o2_mul (SE.sp (se_op op_mod o2_mod (SE.sp (se_bt call_int1 f1_int (by rfl) nb.b_int (by decide +kernel) (spa_cons (sp_var (pv 2)) spa_nil))) (SE.sp se_int))) (SE.sp se_int))) (SE.sp (se_op or_mul o2_mul (SE.sp se_int) (sp_var (pv 1)))))) (SE.sp se_int))) spa_nil))) (SE.sp se_int))) (SE.sp se_int)) sa_nil)))))))
theorem ok_law (c_law_right : CalG P w K mg base 12 "_law_right" f_law_right) (c_law_pot : CalG P w K mg base 1 "_law_pot" f_law_pot) (nb : Nb mg) : ∀ f fd, Fun K "law" "law" s_law f fd → FnG P w K mg base 13 f fd ["script"] (spF K f_law) := fun f fd F => def_okG (m := b_law) 1 2 F sc_law rfl rfl fun cdv A outer s H E hcv hG hr =>
  (ss_one (s_ret (se_bi (cr_all rfl) f1_all (by rfl) nb.b_all (by decide +kernel) (spa_cons (SE.sp (SL.se (sl_lc (own := [("k", 1)]) rfl sc_law.nd (SI.sip (si_range1 (by rfl) nb.b_range (SE.sp (se_bi (call_max2 rfl) f1_max2 (by rfl) nb.b_max (by decide +kernel) (spa_cons (SE.sp se_int) (spa_cons (SE.sp (se_bi (call_min2 rfl) f1_min2 (by rfl) nb.b_min (by decide +kernel) (spa_cons (SE.sp se_int) (spa_cons (SE.sp (se_bi cr_len f1_len (by rfl) nb.b_len (by decide +kernel) (spa_cons (sp_var (pv 0)) spa_nil))) spa_nil)))) spa_nil)))))) (blkOk_by (N := N_law) (sc := (defScope s_law)) (by decide +kernel)) (fun _ _ _ _ _ => (sg_name (pg_name (i := 1) sc_law.nd rfl (by first | exact .inl rfl | exact .inr rfl)))) (fun _ _ _ _ _ => sts_nil) (fun _ _ _ _ _ => (se_cG c_law_right hG hr (by decide) (by rfl) (sa_cons (se_cG c_law_pot hG hr (by decide) (by rfl) (sa_cons (se_var (pv 0)) (sa_cons (se_var (pv 1)) sa_nil))) sa_nil))) (by decide)))) spa_nil))))
end
section
variable {P : Program} {w : World} {K : PySem.W.Frag} {mg : Str → Option Value} {base : Heap}
theorem all_ok (a_is_integer : At K mg "is_integer" s_is_integer) (a_divisor : At K mg "divisor" s_divisor) (a_is_fraction_of : At K mg "is_fraction_of" s_is_fraction_of) (a_reduced : At K mg "reduced" s_reduced) (a_add : At K mg "add" s_add) (a_total : At K mg "total" s_total) (a_is_lot_of : At K mg "is_lot_of" s_is_lot_of) (a_is_short : At K mg "is_short" s_is_short) (a_is_short_lot : At K mg "is_short_lot" s_is_short_lot) (a_check_lot : At K mg "check_lot" s_check_lot) (a_check_two : At K mg "check_two" s_check_two) (a_multiply : At K mg "multiply" s_multiply) (a_beside : At K mg "beside" s_beside) (a_law_plain : At K mg "_law_plain" s_law_plain) (a_law_plus : At K mg "_law_plus" s_law_plus) (a_law_total : At K mg "_law_total" s_law_total) (a_law_times : At K mg "_law_times" s_law_times) (a_law_draw : At K mg "_law_draw" s_law_draw) (a_law_lot : At K mg "_law_lot" s_law_lot) (a_is_list : At K mg "is_list" s_is_list) (a_check_lots : At K mg "check_lots" s_check_lots) (a_products_sum : At K mg "products_sum" s_products_sum) (a_mixed_of : At K mg "mixed_of" s_mixed_of) (a_mixed : At K mg "mixed" s_mixed) (a_is_lot : At K mg "is_lot" s_is_lot) (a_law_mean : At K mg "_law_mean" s_law_mean) (a_support_of : At K mg "support_of" s_support_of) (a_support : At K mg "support" s_support) (a_law_mixed : At K mg "_law_mixed" s_law_mixed) (a_is_within : At K mg "is_within" s_is_within) (a_are_places : At K mg "are_places" s_are_places) (a_check_places : At K mg "check_places" s_check_places) (a_has_of : At K mg "has_of" s_has_of) (a_has : At K mg "has" s_has) (a_law_fraction : At K mg "_law_fraction" s_law_fraction) (a_law_spread : At K mg "_law_spread" s_law_spread) (a_are_worths : At K mg "are_worths" s_are_worths) (a_check_worths : At K mg "check_worths" s_check_worths) (a_mean_of : At K mg "mean_of" s_mean_of) (a_take : At K mg "take" s_take) (a_spread : At K mg "spread" s_spread) (a_mean : At K mg "mean" s_mean) (a_divide : At K mg "divide" s_divide) (a_given_that : At K mg "given_that" s_given_that) (a_common_bottom : At K mg "common_bottom" s_common_bottom) (a_parts : At K mg "parts" s_parts) (a_law_one_right : At K mg "_law_one_right" s_law_one_right) (a_is_count : At K mg "is_count" s_is_count) (a_check_number : At K mg "check_number" s_check_number) (a_moved_of : At K mg "moved_of" s_moved_of) (a_moved : At K mg "moved" s_moved) (a_law_moved_right : At K mg "_law_moved_right" s_law_moved_right) (a_law_pick : At K mg "_law_pick" s_law_pick) (a_law_right : At K mg "_law_right" s_law_right) (a_law_pot : At K mg "_law_pot" s_law_pot) (a_law : At K mg "law" s_law) (k_MOST_DIGITS : ConR K mg "MOST_DIGITS" (.int 1000000000000)) (k_MOST_LOTS : ConR K mg "MOST_LOTS" (.int 6)) (k_MOST_PLACES : ConR K mg "MOST_PLACES" (.int 8)) (k_NOUGHT : ConR K mg "NOUGHT" (.tup [(.int 0), (.int 1)])) (k_ONE : ConR K mg "ONE" (.tup [(.int 1), (.int 1)])) (nb : Nb mg) {CS : Addr} {xB xn xi : String} {xbm : List Value} (xf_NoChance : ExcF K mg "NoChance" CS xB xn xi xbm) (a_law_heard : At K mg "_law_heard" s_law_heard) (t_law_one_right : PySem.W.tabIn K "_law_one_right" = some (TC_law_one_right, TP_law_one_right)) (KB : K.In base) (GB : base.Ns mainGlobals mg) (tbs : ∀ x ∈ TBC, LamX.TabB base mg x.1 x.2.1) : ∀ f fd, Fun K "law" "law" s_law f fd → FnG P w K mg base 13 f fd ["script"] (spF K f_law) := by
  have o_is_integer := ok_is_integer (P := P) (w := w) (K := K) (mg := mg) (base := base) nb
  have r_is_integer := cal_mk a_is_integer o_is_integer (fun _ _ _ _ _ _ us hl => match us, hl with | [_], _ => rfl)
  have o_is_integer := fun f fd F => FnG.of (o_is_integer f fd F)
  have c_is_integer := calG_mk a_is_integer o_is_integer (fun _ _ _ _ _ _ us hl => match us, hl with | [_], _ => rfl)
  have o_divisor := ok_divisor (P := P) (w := w) (K := K) (mg := mg) (base := base) nb
  have r_divisor := cal_mk a_divisor o_divisor (fun _ _ _ _ _ _ us hl => match us, hl with | [_, _], _ => rfl)
  have o_divisor := fun f fd F => FnG.of (o_divisor f fd F)
  have c_divisor := calG_mk a_divisor o_divisor (fun _ _ _ _ _ _ us hl => match us, hl with | [_, _], _ => rfl)
  have o_is_fraction_of := ok_is_fraction_of (P := P) (w := w) (K := K) (mg := mg) (base := base) r_is_integer r_divisor nb
  have r_is_fraction_of := cal_mk a_is_fraction_of o_is_fraction_of (fun _ _ _ _ _ _ us hl => match us, hl with | [_], _ => rfl)
  have o_is_fraction_of := fun f fd F => FnG.of (o_is_fraction_of f fd F)
  have c_is_fraction_of := calG_mk a_is_fraction_of o_is_fraction_of (fun _ _ _ _ _ _ us hl => match us, hl with | [_], _ => rfl)
  have o_reduced := ok_reduced (P := P) (w := w) (K := K) (mg := mg) (base := base) r_divisor nb
  have r_reduced := cal_mk a_reduced o_reduced (fun _ _ _ _ _ _ us hl => match us, hl with | [_, _], _ => rfl)
  have o_reduced := fun f fd F => FnG.of (o_reduced f fd F)
  have c_reduced := calG_mk a_reduced o_reduced (fun _ _ _ _ _ _ us hl => match us, hl with | [_, _], _ => rfl)
  have o_add := ok_add (P := P) (w := w) (K := K) (mg := mg) (base := base) r_reduced
  have r_add := cal_mk a_add o_add (fun _ _ _ _ _ _ us hl => match us, hl with | [_, _], _ => rfl)
  have o_add := fun f fd F => FnG.of (o_add f fd F)
  have c_add := calG_mk a_add o_add (fun _ _ _ _ _ _ us hl => match us, hl with | [_, _], _ => rfl)
  have o_total := ok_total (P := P) (w := w) (K := K) (mg := mg) (base := base) r_add k_NOUGHT
  have r_total := cal_mk a_total o_total (fun _ _ _ _ _ _ us hl => match us, hl with | [_], _ => rfl)
  have o_total := fun f fd F => FnG.of (o_total f fd F)
  have c_total := calG_mk a_total o_total (fun _ _ _ _ _ _ us hl => match us, hl with | [_], _ => rfl)
  have o_is_lot_of := ok_is_lot_of (P := P) (w := w) (K := K) (mg := mg) (base := base) r_is_fraction_of r_total k_MOST_PLACES k_ONE nb
  have r_is_lot_of := cal_mk a_is_lot_of o_is_lot_of (fun _ _ _ _ _ _ us hl => match us, hl with | [_], _ => rfl)
  have o_is_lot_of := fun f fd F => FnG.of (o_is_lot_of f fd F)
  have c_is_lot_of := calG_mk a_is_lot_of o_is_lot_of (fun _ _ _ _ _ _ us hl => match us, hl with | [_], _ => rfl)
  have o_is_short := ok_is_short (P := P) (w := w) (K := K) (mg := mg) (base := base) r_is_fraction_of k_MOST_DIGITS nb
  have r_is_short := cal_mk a_is_short o_is_short (fun _ _ _ _ _ _ us hl => match us, hl with | [_], _ => rfl)
  have o_is_short := fun f fd F => FnG.of (o_is_short f fd F)
  have c_is_short := calG_mk a_is_short o_is_short (fun _ _ _ _ _ _ us hl => match us, hl with | [_], _ => rfl)
  have o_is_short_lot := ok_is_short_lot (P := P) (w := w) (K := K) (mg := mg) (base := base) r_is_lot_of r_is_short nb
  have r_is_short_lot := cal_mk a_is_short_lot o_is_short_lot (fun _ _ _ _ _ _ us hl => match us, hl with | [_], _ => rfl)
  have o_is_short_lot := fun f fd F => FnG.of (o_is_short_lot f fd F)
  have c_is_short_lot := calG_mk a_is_short_lot o_is_short_lot (fun _ _ _ _ _ _ us hl => match us, hl with | [_], _ => rfl)
  have o_check_lot := ok_check_lot (P := P) (w := w) (K := K) (mg := mg) (base := base) r_is_short_lot
  have r_check_lot := cal_mk a_check_lot o_check_lot (fun _ _ _ _ _ _ us hl => match us, hl with | [_], _ => rfl)
  have o_check_lot := fun f fd F => FnG.of (o_check_lot f fd F)
  have c_check_lot := calG_mk a_check_lot o_check_lot (fun _ _ _ _ _ _ us hl => match us, hl with | [_], _ => rfl)
  have o_check_two := ok_check_two (P := P) (w := w) (K := K) (mg := mg) (base := base) c_check_lot
  have c_check_two := calG_mk a_check_two o_check_two (fun _ _ _ _ _ _ us hl => match us, hl with | [_, _], _ => rfl)
  have o_multiply := ok_multiply (P := P) (w := w) (K := K) (mg := mg) (base := base) c_reduced
  have c_multiply := calG_mk a_multiply o_multiply (fun _ _ _ _ _ _ us hl => match us, hl with | [_, _], _ => rfl)
  have o_beside := ok_beside (P := P) (w := w) (K := K) (mg := mg) (base := base) c_check_two c_multiply
  have cn_beside := calN_mk a_beside o_beside (fun _ _ _ _ _ _ us hl => match us, hl with | [_, _], _ => rfl)
  have o_beside := fun f fd F => FnG.ofN (o_beside f fd F)
  have c_beside := calG_mk a_beside o_beside (fun _ _ _ _ _ _ us hl => match us, hl with | [_, _], _ => rfl)
  have ck_beside_other_lot : CalKG P w K mg base 9 "beside" f_beside ["other", "lot"] [1, 0] := kwG_of a_beside o_beside (fun _ _ _ _ _ _ ws hl => match ws, hl with | _ :: _ :: _, _ => rfl | [], h => by simp at h | [_], h => by simp at h)
  have o_law_plain := ok_law_plain (P := P) (w := w) (K := K) (mg := mg) (base := base) nb
  have c_law_plain := calG_mk a_law_plain o_law_plain (fun _ _ _ _ _ _ us hl => match us, hl with | [_, _], _ => rfl)
  have o_law_plus := ok_law_plus (P := P) (w := w) (K := K) (mg := mg) (base := base) c_law_plain
  have c_law_plus := calG_mk a_law_plus o_law_plus (fun _ _ _ _ _ _ us hl => match us, hl with | [_, _], _ => rfl)
  have o_law_total := ok_law_total (P := P) (w := w) (K := K) (mg := mg) (base := base) c_law_plus
  have c_law_total := calG_mk a_law_total o_law_total (fun _ _ _ _ _ _ us hl => match us, hl with | [_], _ => rfl)
  have o_law_times := ok_law_times (P := P) (w := w) (K := K) (mg := mg) (base := base) c_law_plain
  have c_law_times := calG_mk a_law_times o_law_times (fun _ _ _ _ _ _ us hl => match us, hl with | [_, _], _ => rfl)
  have o_law_draw := ok_law_draw (P := P) (w := w) (K := K) (mg := mg) (base := base) nb
  have c_law_draw := calG_mk a_law_draw o_law_draw (fun _ _ _ _ _ _ us hl => match us, hl with | [_, _], _ => rfl)
  have o_law_lot := ok_law_lot (P := P) (w := w) (K := K) (mg := mg) (base := base) c_law_draw c_law_plain nb
  have c_law_lot := calG_mk a_law_lot o_law_lot (fun _ _ _ _ _ _ us hl => match us, hl with | [_, _, _], _ => rfl)
  have o_is_list := ok_is_list (P := P) (w := w) (K := K) (mg := mg) (base := base) nb
  have r_is_list := cal_mk a_is_list o_is_list (fun _ _ _ _ _ _ us hl => match us, hl with | [_], _ => rfl)
  have o_is_list := fun f fd F => FnG.of (o_is_list f fd F)
  have c_is_list := calG_mk a_is_list o_is_list (fun _ _ _ _ _ _ us hl => match us, hl with | [_], _ => rfl)
  have o_check_lots := ok_check_lots (P := P) (w := w) (K := K) (mg := mg) (base := base) c_is_list c_is_short_lot k_MOST_LOTS nb
  have c_check_lots := calG_mk a_check_lots o_check_lots (fun _ _ _ _ _ _ us hl => match us, hl with | [_], _ => rfl)
  have o_products_sum := ok_products_sum (P := P) (w := w) (K := K) (mg := mg) (base := base) c_total c_multiply nb
  have c_products_sum := calG_mk a_products_sum o_products_sum (fun _ _ _ _ _ _ us hl => match us, hl with | [_, _], _ => rfl)
  have o_mixed_of := ok_mixed_of (P := P) (w := w) (K := K) (mg := mg) (base := base) c_products_sum nb
  have c_mixed_of := calG_mk a_mixed_of o_mixed_of (fun _ _ _ _ _ _ us hl => match us, hl with | [_, _], _ => rfl)
  have o_mixed := ok_mixed (P := P) (w := w) (K := K) (mg := mg) (base := base) c_check_lots c_is_short_lot c_mixed_of nb
  have c_mixed := calG_mk a_mixed o_mixed (fun _ _ _ _ _ _ us hl => match us, hl with | [_, _], _ => rfl)
  have ck_mixed_lots_weights : CalKG P w K mg base 8 "mixed" f_mixed ["lots", "weights"] [1, 0] := kwG_of a_mixed o_mixed (fun _ _ _ _ _ _ ws hl => match ws, hl with | _ :: _ :: _, _ => rfl | [], h => by simp at h | [_], h => by simp at h)
  have o_is_lot := ok_is_lot (P := P) (w := w) (K := K) (mg := mg) (base := base) c_is_lot_of
  have c_is_lot := calG_mk a_is_lot o_is_lot (fun _ _ _ _ _ _ us hl => match us, hl with | [_], _ => rfl)
  have o_law_mean := ok_law_mean (P := P) (w := w) (K := K) (mg := mg) (base := base) c_law_total c_law_times nb
  have c_law_mean := calG_mk a_law_mean o_law_mean (fun _ _ _ _ _ _ us hl => match us, hl with | [_, _], _ => rfl)
  have o_support_of := ok_support_of (P := P) (w := w) (K := K) (mg := mg) (base := base) nb
  have cn_support_of := calN_mk a_support_of o_support_of (fun _ _ _ _ _ _ us hl => match us, hl with | [_], _ => rfl)
  have o_support_of := fun f fd F => FnG.ofN (o_support_of f fd F)
  have c_support_of := calG_mk a_support_of o_support_of (fun _ _ _ _ _ _ us hl => match us, hl with | [_], _ => rfl)
  have o_support := ok_support (P := P) (w := w) (K := K) (mg := mg) (base := base) c_check_lot c_support_of cn_support_of
  have cn_support := calN_mk a_support o_support (fun _ _ _ _ _ _ us hl => match us, hl with | [_], _ => rfl)
  have o_support := fun f fd F => FnG.ofN (o_support f fd F)
  have c_support := calG_mk a_support o_support (fun _ _ _ _ _ _ us hl => match us, hl with | [_], _ => rfl)
  have ck_support_lot : CalKG P w K mg base 8 "support" f_support ["lot"] [0] := kwG_of a_support o_support (fun _ _ _ _ _ _ ws hl => match ws, hl with | _ :: _, _ => rfl | [], h => by simp at h)
  have o_law_mixed := ok_law_mixed (P := P) (w := w) (K := K) (mg := mg) (base := base) c_law_draw nb
  have c_law_mixed := calG_mk a_law_mixed o_law_mixed (fun _ _ _ _ _ _ us hl => match us, hl with | [_, _], _ => rfl)
  have o_is_within := ok_is_within (P := P) (w := w) (K := K) (mg := mg) (base := base) r_is_integer
  have r_is_within := cal_mk a_is_within o_is_within (fun _ _ _ _ _ _ us hl => match us, hl with | [_, _, _], _ => rfl)
  have o_is_within := fun f fd F => FnG.of (o_is_within f fd F)
  have c_is_within := calG_mk a_is_within o_is_within (fun _ _ _ _ _ _ us hl => match us, hl with | [_, _, _], _ => rfl)
  have o_are_places := ok_are_places (P := P) (w := w) (K := K) (mg := mg) (base := base) r_is_list r_is_within nb
  have r_are_places := cal_mk a_are_places o_are_places (fun _ _ _ _ _ _ us hl => match us, hl with | [_, _], _ => rfl)
  have o_are_places := fun f fd F => FnG.of (o_are_places f fd F)
  have c_are_places := calG_mk a_are_places o_are_places (fun _ _ _ _ _ _ us hl => match us, hl with | [_, _], _ => rfl)
  have o_check_places := ok_check_places (P := P) (w := w) (K := K) (mg := mg) (base := base) r_are_places
  have r_check_places := cal_mk a_check_places o_check_places (fun _ _ _ _ _ _ us hl => match us, hl with | [_, _], _ => rfl)
  have o_check_places := fun f fd F => FnG.of (o_check_places f fd F)
  have c_check_places := calG_mk a_check_places o_check_places (fun _ _ _ _ _ _ us hl => match us, hl with | [_, _], _ => rfl)
  have o_has_of := ok_has_of (P := P) (w := w) (K := K) (mg := mg) (base := base) r_total
  have r_has_of := cal_mk a_has_of o_has_of (fun _ _ _ _ _ _ us hl => match us, hl with | [_, _], _ => rfl)
  have o_has_of := fun f fd F => FnG.of (o_has_of f fd F)
  have c_has_of := calG_mk a_has_of o_has_of (fun _ _ _ _ _ _ us hl => match us, hl with | [_, _], _ => rfl)
  have o_has := ok_has (P := P) (w := w) (K := K) (mg := mg) (base := base) c_check_lot c_check_places c_has_of nb
  have c_has := calG_mk a_has o_has (fun _ _ _ _ _ _ us hl => match us, hl with | [_, _], _ => rfl)
  have ck_has_places_lot : CalKG P w K mg base 8 "has" f_has ["places", "lot"] [1, 0] := kwG_of a_has o_has (fun _ _ _ _ _ _ ws hl => match ws, hl with | _ :: _ :: _, _ => rfl | [], h => by simp at h | [_], h => by simp at h)
  have o_law_fraction := ok_law_fraction (P := P) (w := w) (K := K) (mg := mg) (base := base) c_law_plain c_law_draw
  have c_law_fraction := calG_mk a_law_fraction o_law_fraction (fun _ _ _ _ _ _ us hl => match us, hl with | [_, _], _ => rfl)
  have o_law_spread := ok_law_spread (P := P) (w := w) (K := K) (mg := mg) (base := base) c_law_plus c_law_times c_law_total nb
  have c_law_spread := calG_mk a_law_spread o_law_spread (fun _ _ _ _ _ _ us hl => match us, hl with | [_, _], _ => rfl)
  have o_are_worths := ok_are_worths (P := P) (w := w) (K := K) (mg := mg) (base := base) c_is_list c_is_short nb
  have c_are_worths := calG_mk a_are_worths o_are_worths (fun _ _ _ _ _ _ us hl => match us, hl with | [_, _], _ => rfl)
  have o_check_worths := ok_check_worths (P := P) (w := w) (K := K) (mg := mg) (base := base) c_are_worths
  have c_check_worths := calG_mk a_check_worths o_check_worths (fun _ _ _ _ _ _ us hl => match us, hl with | [_, _], _ => rfl)
  have o_mean_of := ok_mean_of (P := P) (w := w) (K := K) (mg := mg) (base := base) c_products_sum
  have c_mean_of := calG_mk a_mean_of o_mean_of (fun _ _ _ _ _ _ us hl => match us, hl with | [_, _], _ => rfl)
  have o_take := ok_take (P := P) (w := w) (K := K) (mg := mg) (base := base) c_reduced
  have c_take := calG_mk a_take o_take (fun _ _ _ _ _ _ us hl => match us, hl with | [_, _], _ => rfl)
  have o_spread := ok_spread (P := P) (w := w) (K := K) (mg := mg) (base := base) c_check_lot c_check_worths c_mean_of c_take c_multiply nb
  have c_spread := calG_mk a_spread o_spread (fun _ _ _ _ _ _ us hl => match us, hl with | [_, _], _ => rfl)
  have ck_spread_worths_lot : CalKG P w K mg base 8 "spread" f_spread ["worths", "lot"] [1, 0] := kwG_of a_spread o_spread (fun _ _ _ _ _ _ ws hl => match ws, hl with | _ :: _ :: _, _ => rfl | [], h => by simp at h | [_], h => by simp at h)
  have o_mean := ok_mean (P := P) (w := w) (K := K) (mg := mg) (base := base) c_check_lot c_check_worths c_mean_of nb
  have c_mean := calG_mk a_mean o_mean (fun _ _ _ _ _ _ us hl => match us, hl with | [_, _], _ => rfl)
  have ck_mean_worths_lot : CalKG P w K mg base 8 "mean" f_mean ["worths", "lot"] [1, 0] := kwG_of a_mean o_mean (fun _ _ _ _ _ _ ws hl => match ws, hl with | _ :: _ :: _, _ => rfl | [], h => by simp at h | [_], h => by simp at h)
  have o_divide := ok_divide (P := P) (w := w) (K := K) (mg := mg) (base := base) r_reduced
  have r_divide := cal_mk a_divide o_divide (fun _ _ _ _ _ _ us hl => match us, hl with | [_, _], _ => rfl)
  have o_divide := fun f fd F => FnG.of (o_divide f fd F)
  have c_divide := calG_mk a_divide o_divide (fun _ _ _ _ _ _ us hl => match us, hl with | [_, _], _ => rfl)
  have o_given_that := ok_given_that (P := P) (w := w) (K := K) (mg := mg) (base := base) xf_NoChance r_check_lot r_check_places r_has_of r_divide k_NOUGHT nb
  have cx_given_that := calx_mk a_given_that o_given_that (fun _ _ _ _ _ _ us hl => match us, hl with | [_, _], _ => rfl)
  have cxk_given_that_places_lot : CalKX P w K mg base 8 "given_that" (.ref CS) g_given_that ["places", "lot"] [1, 0] := kwx_of a_given_that o_given_that (fun _ _ _ _ _ _ ws hl => match ws, hl with | _ :: _ :: _, _ => rfl | [], h => by simp at h | [_], h => by simp at h)
  have o_given_that := fun f fd F => FnG.ofX (o_given_that f fd F)
  have c_given_that := calG_mk a_given_that o_given_that (fun _ _ _ _ _ _ us hl => match us, hl with | [_, _], _ => rfl)
  have o_common_bottom := ok_common_bottom (P := P) (w := w) (K := K) (mg := mg) (base := base) c_divisor
  have c_common_bottom := calG_mk a_common_bottom o_common_bottom (fun _ _ _ _ _ _ us hl => match us, hl with | [_], _ => rfl)
  have o_parts := ok_parts (P := P) (w := w) (K := K) (mg := mg) (base := base) c_check_lot c_common_bottom nb
  have c_parts := calG_mk a_parts o_parts (fun _ _ _ _ _ _ us hl => match us, hl with | [_], _ => rfl)
  have ck_parts_lot : CalKG P w K mg base 8 "parts" f_parts ["lot"] [0] := kwG_of a_parts o_parts (fun _ _ _ _ _ _ ws hl => match ws, hl with | _ :: _, _ => rfl | [], h => by simp at h)
  have o_law_one_right := ok_law_one_right (P := P) (w := w) (K := K) (mg := mg) (base := base) xf_NoChance KB GB tbs a_law_heard t_law_one_right cx_given_that cxk_given_that_places_lot c_support c_law_mixed c_law_draw c_law_total c_has c_law_times c_law_fraction c_law_spread c_law_mean c_spread c_mean c_law_plus c_mixed c_given_that c_parts c_law_plain cn_support ck_support_lot ck_has_places_lot ck_spread_worths_lot ck_mean_worths_lot ck_parts_lot nb
  have c_law_one_right := calG_mkC a_law_one_right o_law_one_right (fun _ _ _ _ _ _ us hl => match us, hl with | [_, _], _ => rfl)
  have o_is_count := ok_is_count (P := P) (w := w) (K := K) (mg := mg) (base := base) c_is_integer
  have c_is_count := calG_mk a_is_count o_is_count (fun _ _ _ _ _ _ us hl => match us, hl with | [_], _ => rfl)
  have o_check_number := ok_check_number (P := P) (w := w) (K := K) (mg := mg) (base := base) c_is_within
  have c_check_number := calG_mk a_check_number o_check_number (fun _ _ _ _ _ _ us hl => match us, hl with | [_, _, _], _ => rfl)
  have o_moved_of := ok_moved_of (P := P) (w := w) (K := K) (mg := mg) (base := base) c_add k_NOUGHT nb
  have c_moved_of := calG_mk a_moved_of o_moved_of (fun _ _ _ _ _ _ us hl => match us, hl with | [_, _, _], _ => rfl)
  have o_moved := ok_moved (P := P) (w := w) (K := K) (mg := mg) (base := base) c_check_lot c_is_list c_is_count c_check_number c_moved_of k_MOST_PLACES nb
  have c_moved := calG_mk a_moved o_moved (fun _ _ _ _ _ _ us hl => match us, hl with | [_, _, _], _ => rfl)
  have ck_moved_many_target_lot : CalKG P w K mg base 8 "moved" f_moved ["many", "target", "lot"] [2, 1, 0] := kwG_of a_moved o_moved (fun _ _ _ _ _ _ ws hl => match ws, hl with | _ :: _ :: _ :: _, _ => rfl | [], h => by simp at h | [_], h => by simp at h | [_, _], h => by simp at h)
  have o_law_moved_right := ok_law_moved_right (P := P) (w := w) (K := K) (mg := mg) (base := base) c_law_draw c_law_total c_moved c_law_fraction c_is_lot c_mean ck_moved_many_target_lot nb
  have c_law_moved_right := calG_mk a_law_moved_right o_law_moved_right (fun _ _ _ _ _ _ us hl => match us, hl with | [_, _], _ => rfl)
  have o_law_pick := ok_law_pick (P := P) (w := w) (K := K) (mg := mg) (base := base) c_law_draw nb
  have c_law_pick := calG_mk a_law_pick o_law_pick (fun _ _ _ _ _ _ us hl => match us, hl with | [_, _], _ => rfl)
  have o_law_right := ok_law_right (P := P) (w := w) (K := K) (mg := mg) (base := base) c_beside c_law_total c_law_times c_law_lot c_law_draw c_mixed c_is_lot c_law_mean c_law_one_right c_law_moved_right c_law_pick cn_beside ck_beside_other_lot ck_mixed_lots_weights nb
  have c_law_right := calG_mk a_law_right o_law_right (fun _ _ _ _ _ _ us hl => match us, hl with | [_], _ => rfl)
  have o_law_pot := ok_law_pot (P := P) (w := w) (K := K) (mg := mg) (base := base) nb
  have c_law_pot := calG_mk a_law_pot o_law_pot (fun _ _ _ _ _ _ us hl => match us, hl with | [_, _], _ => rfl)
  have o_law := ok_law (P := P) (w := w) (K := K) (mg := mg) (base := base) c_law_right c_law_pot nb
  exact o_law
end
end Law

set_option maxRecDepth 100000
set_option linter.all false
namespace R
open PySem
open L2
theorem bind_leaf {α β : Type} (a : α) (f : α → Tree β) : (Tree.leaf a).bind f = f a := Eq.trans rfl rfl
theorem bind_fail {α β : Type} (f : α → Tree β) : (Tree.fail : Tree α).bind f = .fail := Eq.trans rfl rfl
theorem bind_draw {α β : Type} (n : Nat) (k : Nat → Tree α) (f : α → Tree β) : (Tree.draw n k).bind f = .draw n fun i => (k i).bind f := rfl
theorem mPeek_z (s : Slot) (E : En) : mPeek 0 (some s :: E) = .leaf s.d := rfl
theorem mPeek_s (i : Nat) (x : Option Slot) (E : En) : mPeek (i + 1) (x :: E) = mPeek i E := rfl
theorem mVar_z (d : D) (E : En) : mVar 0 (some ⟨false, d⟩ :: E) = .leaf d := rfl
theorem mVar_s (i : Nat) (x : Option Slot) (E : En) : mVar (i + 1) (x :: E) = mVar i E := rfl
theorem put_z (d : D) (x : Option Slot) (E : En) : En.put (x :: E) 0 d = some ⟨false, d⟩ :: E := rfl
theorem put_s (i : Nat) (d : D) (x : Option Slot) (E : En) : En.put (x :: E) (i + 1) d = x :: En.put E i d := rfl
theorem putOwn_z (d : D) (x : Option Slot) (E : En) : En.putOwn (x :: E) 0 d = some ⟨true, d⟩ :: E := rfl
theorem putOwn_s (i : Nat) (d : D) (x : Option Slot) (E : En) : En.putOwn (x :: E) (i + 1) d = x :: En.putOwn E i d := rfl
def wset (E : En) (v : Nat) : En := E.set v none
theorem wipe_n (E : En) : wipeE E [] = E := rfl
theorem wipe_c (v : Nat) (vs : List Nat) (E : En) : wipeE E (v :: vs) = wset (wipeE E vs) v := rfl
theorem wset_z (x : Option Slot) (E : En) : wset (x :: E) 0 = none :: E := rfl
theorem wset_s (v : Nat) (x : Option Slot) (E : En) : wset (x :: E) (v + 1) = x :: wset E v := rfl
theorem lineOk_s {α : Type} (n : Nat) (t : Tree α) (h : n ≤ 100) : lineOk n t = t := if_pos (Nat.le_trans h (by decide))
def BA : Nat := 2 ^ 4000
def BB : Nat := 2 ^ 8001
theorem bab : BA * BA + BA * BA = BB := by decide +kernel
theorem ba_pos : 1000 < BA := by decide +kernel
theorem ba_le : BA ≤ BB := by decide +kernel
theorem log_bb {n : Nat} (h : n < BB) : n.log2 < 8001 := by
  by_cases e : n = 0
  · rw [e]; decide
  · exact (Nat.log2_lt e).mpr h
theorem mulB_s {i j : Int} (hi : i.natAbs < BB) (hj : j.natAbs < BB) : mulB i j = true := by
  have h1 := log_bb hi
  have h2 := log_bb hj
  unfold mulB
  exact decide_eq_true (by omega)
theorem divB_s {i j : Int} (h0 : 0 < j) (hj : j.natAbs < BB) : divB i j = true := by
  have h2 := log_bb hj
  unfold divB
  rw [decide_eq_true h0, decide_eq_true (show j.natAbs.log2 < 9000 by omega)]; rfl
theorem opMul_i {i j : Int} (hi : i.natAbs < BB) (hj : j.natAbs < BB) : opMul (.int i) (.int j) = .leaf (.int (i * j)) := if_pos (mulB_s hi hj)
theorem opDiv_i {i j : Int} (h0 : 0 < j) (hj : j.natAbs < BB) : opDiv (.int i) (.int j) = .leaf (.int (i / j)) := if_pos (divB_s h0 hj)
theorem opMod_i {i j : Int} (h0 : 0 < j) : opMod (.int i) (.int j) = .leaf (.int (i % j)) := if_pos (decide_eq_true h0)
theorem opAdd_i (i j : Int) : opAdd (.int i) (.int j) = .leaf (.int (i + j)) := rfl
theorem opSub_i (i j : Int) : opSub (.int i) (.int j) = .leaf (.int (i - j)) := rfl
theorem opNeg_i (i : Int) : opNeg (.int i) = .leaf (.int (-i)) := rfl
theorem cLt_i (i j : Int) : cLt (.int i) (.int j) = .leaf (decide (i < j)) := rfl
theorem cLe_i (i j : Int) : cLe (.int i) (.int j) = .leaf (decide (i ≤ j)) := rfl
theorem cGt_i (i j : Int) : cGt (.int i) (.int j) = .leaf (decide (j < i)) := rfl
theorem cGe_i (i j : Int) : cGe (.int i) (.int j) = .leaf (decide (j ≤ i)) := rfl
theorem cEq_i (i j : Int) : cEq (.int i) (.int j) = .leaf (i == j) := rfl
theorem cNe_i (i j : Int) : cNe (.int i) (.int j) = .leaf (!(i == j)) := rfl
theorem fInt_i (i : Int) : fInt [.int i] = .leaf (.int i) := rfl
theorem fAbs_i (i : Int) : fAbs [.int i] = .leaf (.int (if i < 0 then -i else i)) := rfl
theorem ix0 (a : D) (l : List D) : opIx (.tup (a :: l)) (.int 0) = .leaf a := by
  show ixO _ _ _ = _
  simp [ixO, atI, ixN]
theorem ix1 (a b : D) (l : List D) : opIx (.tup (a :: b :: l)) (.int 1) = .leaf b := by
  have h : atI (a :: b :: l) 1 = some b := by
    unfold atI ixN
    simp only [List.length_cons]
    rw [if_pos (by omega), if_pos (by omega)]
    rfl
  show ixO _ _ _ = _
  unfold ixO
  rw [h]
theorem lineOk_1 {α : Type} (t : Tree α) : lineOk 1 t = t := lineOk_s _ _ (by omega)
theorem lineOk_2 {α : Type} (t : Tree α) : lineOk 2 t = t := lineOk_s _ _ (by omega)
theorem lineOk_3 {α : Type} (t : Tree α) : lineOk 3 t = t := lineOk_s _ _ (by omega)
theorem asB_b (b : Bool) : asB (.bl b) = .leaf b := rfl
theorem fLen_t (xs : List D) : fLen [.tup xs] = .leaf (.int xs.length) := rfl
theorem fLen_l (xs : List D) : fLen [.lst xs] = .leaf (.int xs.length) := rfl
end R
namespace Law
open R PySem L2
local macro_rules | `(tactic| walk_at "ev") => `(tactic| simp only [mDef, En.start, oSeq, oIf, oRet, oSet, oPar, oNx, oFail, oEx, m2, m1, mA, aCons, aNil, mB, mC, mCh, mT, mNot, mAnd, mOr, mAndV, mOrV, mNotV, mIf, mTup, mLst, mList, asB_b, bind_leaf, bind_fail, lineOk_1, lineOk_2, lineOk_3, mPeek_z, mPeek_s, mVar_z, mVar_s, put_z, put_s, opAdd_i, opSub_i, opNeg_i, cLt_i, cLe_i, cGt_i, cGe_i, cEq_i, cNe_i, fAbs_i, fInt_i, fLen_t, fLen_l, ix0, ix1, Bool.false_eq_true, Bool.not_true, Bool.not_false,
  List.length_cons, List.length_nil, List.map_cons, List.map_nil, List.cons_append, List.nil_append, List.replicate, Nat.reduceAdd, Nat.reduceSub, Nat.zero_add, if_true, if_false, ↓reduceIte])
theorem divisor_loop : ∀ (f a b : Nat), b < f → oWhile (mC cGt (mPeek 1) (fun _ => .leaf (.int 0))) (oPar 0 1 (aCons (mVar 1) (aCons (m2 opMod (mA fInt (aCons (mPeek 0) aNil)) (mPeek 1)) aNil))) f [some ⟨false, .int a⟩, some ⟨false, .int b⟩] = .leaf (.nx [some ⟨false, .int (Nat.gcd a b : Nat)⟩, some ⟨false, .int 0⟩])
  | 0, a, b, h => by omega
  | f + 1, a, b, h => by
    unfold oWhile
    by_cases e : b = 0
    · subst e
      walk_at "ev"
      simp
    · have hb : (0 : Int) < b := by omega
      walk_at "ev"
      rw [decide_eq_true hb]
      walk_at "ev"
      rw [opMod_i hb]
      walk_at "ev"
      rw [show ((a : Int) % (b : Int)) = ((a % b : Nat) : Int) from rfl, divisor_loop f b (a % b) (by have := Nat.mod_lt a (Nat.pos_of_ne_zero e); omega), show Nat.gcd a b = Nat.gcd b (a % b) by rw [Nat.gcd_comm a b, Nat.gcd_rec b a, Nat.gcd_comm]]
theorem divisor_eq {a b : Int} (h : 0 ≤ a) (hb : 0 ≤ b) (hf : b.natAbs < BB) : f_divisor [.int a, .int b] = .leaf (.int (Int.gcd a b)) := by
  obtain ⟨a, rfl⟩ := Int.eq_ofNat_of_zero_le h
  obtain ⟨b, rfl⟩ := Int.eq_ofNat_of_zero_le hb
  have := divisor_loop FUEL a b (Nat.lt_trans (show b < BB by omega) (by decide +kernel))
  unfold f_divisor b_divisor
  walk_at "ev"
  rw [this]
  walk_at "ev"
  rfl
/-- t / b in lowest terms -/
def fq (t b : Int) : D := .tup [.int (t / (Int.gcd t b : Int)), .int (b / (Int.gcd t b : Int))]
theorem gcd_pos' {t b : Int} (h : b ≠ 0) : (0 : Int) < Int.gcd t b := by
  have := Int.gcd_pos_of_ne_zero_right t h
  omega
theorem gcd_le' {t b : Int} (h : b ≠ 0) : (Int.gcd t b : Int) ≤ b.natAbs := by
  have := Int.gcd_dvd_right (a := t) (b := b)
  have h2 : Int.gcd t b ∣ b.natAbs := Int.natAbs_dvd_natAbs.mpr this
  have := Nat.le_of_dvd (by omega) h2
  omega
theorem abs_gcd (t b : Int) : Int.gcd (if t < 0 then -t else t) b = Int.gcd t b := by
  split
  · exact Int.neg_gcd
  · rfl
theorem reduced_eq {t b : Int} (hb : 0 < b) (h1 : b.natAbs < BB) : f_reduced [.int t, .int b] = .leaf (fq t b) := by
  have hg := gcd_pos' (t := t) (b := b) (by omega)
  have hl := gcd_le' (t := t) (b := b) (by omega)
  have hd : f_divisor [.int (if t < 0 then -t else t), .int b] = .leaf (.int (Int.gcd t b)) := by
    rw [divisor_eq (by split <;> omega) (by omega) h1, abs_gcd]
  unfold f_reduced b_reduced
  walk_at "ev"
  rw [decide_eq_false (by omega : ¬ b < 0)]
  walk_at "ev"
  rw [hd]
  walk_at "ev"
  rw [opDiv_i hg (by omega), opDiv_i hg (by omega)]
  walk_at "ev"
  rfl
theorem fq_scale (t b : Int) {k : Int} (hk : 0 < k) : fq (t * k) (b * k) = fq t b := by
  have e : (Int.gcd (t * k) (b * k) : Int) = (Int.gcd t b : Int) * k := by
    rw [Int.gcd_mul_right]
    rw [Int.natCast_mul, Int.natAbs_of_nonneg (Int.le_of_lt hk)]
  unfold fq
  rw [e, Int.mul_ediv_mul_of_pos_left _ _ hk, Int.mul_ediv_mul_of_pos_left _ _ hk]
theorem fq_cross {t b t' b' : Int} (hb : 0 < b) (hb' : 0 < b') (h : t * b' = t' * b) : fq t b = fq t' b' := by
  rw [← fq_scale t b hb', h, Int.mul_comm b b', fq_scale t' b' hb]
/-- the parts of a fraction in lowest terms -/
theorem fq_parts (t b : Int) (hb : 0 < b) : ∃ p q g : Int, fq t b = .tup [.int p, .int q] ∧ 0 < q ∧ 0 < g ∧ t = p * g ∧ b = q * g ∧ q ≤ b ∧ p.natAbs ≤ t.natAbs ∧ Int.gcd p q = 1 := by
  have hg := gcd_pos' (t := t) (b := b) (by omega)
  have e1 : t / (Int.gcd t b : Int) * (Int.gcd t b : Int) = t := Int.ediv_mul_cancel (Int.gcd_dvd_left ..)
  have e2 : b / (Int.gcd t b : Int) * (Int.gcd t b : Int) = b := Int.ediv_mul_cancel (Int.gcd_dvd_right ..)
  generalize hgg : (Int.gcd t b : Int) = g at *
  refine ⟨t / g, b / g, g, by unfold fq; rw [hgg], ?_, hg, e1.symm, e2.symm, ?_, ?_, ?_⟩
  · generalize b / g = q at *
    rcases (by omega : 0 < q ∨ q ≤ 0) with z | z
    · exact z
    · have := Int.mul_le_mul_of_nonneg_right z (Int.le_of_lt hg)
      omega
  · exact Int.ediv_le_self g (Int.le_of_lt hb)
  · exact Int.natAbs_ediv_le_natAbs t g
  · have h := Int.gcd_ediv_gcd_ediv_gcd (i := t) (j := b) (Int.gcd_pos_of_ne_zero_right t (by omega))
    rwa [hgg] at h
theorem fq_of {p q : Int} (h : Int.gcd p q = 1) : fq p q = .tup [.int p, .int q] := by
  unfold fq
  rw [h]
  simp
theorem nmul {a b : Int} {m n : Nat} (ha : a.natAbs < m) (hb : b.natAbs < n) : (a * b).natAbs < m * n := by
  rw [Int.natAbs_mul]
  exact Nat.mul_lt_mul_of_lt_of_le ha (Nat.le_of_lt hb) (by omega)
theorem add_eq {a b c d : Int} (hb : 0 < b) (hd : 0 < d) (la : a.natAbs < BA) (lb : b.natAbs < BA) (lc : c.natAbs < BA) (ld : d.natAbs < BA) : f_add [.tup [.int a, .int b], .tup [.int c, .int d]] = .leaf (fq (a * d + c * b) (b * d)) := by
  have h1 := Int.mul_pos hb hd
  have h2 := nmul lb ld
  have hB := bab
  have hL := ba_le
  unfold f_add b_add
  walk_at "ev"
  rw [opMul_i (by omega) (by omega), opMul_i (by omega) (by omega), opMul_i (by omega) (by omega)]
  walk_at "ev"
  rw [reduced_eq h1 (by omega)]
  walk_at "ev"
theorem take_eq {a b c d : Int} (hb : 0 < b) (hd : 0 < d) (la : a.natAbs < BA) (lb : b.natAbs < BA) (lc : c.natAbs < BA) (ld : d.natAbs < BA) : f_take [.tup [.int a, .int b], .tup [.int c, .int d]] = .leaf (fq (a * d - c * b) (b * d)) := by
  have h1 := Int.mul_pos hb hd
  have h2 := nmul lb ld
  have hB := bab
  have hL := ba_le
  unfold f_take b_take
  walk_at "ev"
  rw [opMul_i (by omega) (by omega), opMul_i (by omega) (by omega), opMul_i (by omega) (by omega)]
  walk_at "ev"
  rw [reduced_eq h1 (by omega)]
  walk_at "ev"
theorem multiply_eq {a b c d : Int} (hb : 0 < b) (hd : 0 < d) (la : a.natAbs < BA) (lb : b.natAbs < BA) (lc : c.natAbs < BA) (ld : d.natAbs < BA) : f_multiply [.tup [.int a, .int b], .tup [.int c, .int d]] = .leaf (fq (a * c) (b * d)) := by
  have h1 := Int.mul_pos hb hd
  have h2 := nmul lb ld
  have hB := bab
  have hL := ba_le
  unfold f_multiply b_multiply
  walk_at "ev"
  rw [opMul_i (by omega) (by omega), opMul_i (by omega) (by omega)]
  walk_at "ev"
  rw [reduced_eq h1 (by omega)]
  walk_at "ev"
theorem divide_eq {a b c d : Int} (hb : 0 < b) (hd : 0 < c) (la : a.natAbs < BA) (lb : b.natAbs < BA) (lc : c.natAbs < BA) (ld : d.natAbs < BA) : f_divide [.tup [.int a, .int b], .tup [.int c, .int d]] = .leaf (fq (a * d) (b * c)) := by
  have h1 := Int.mul_pos hb hd
  have h2 := nmul lb lc
  have hB := bab
  have hL := ba_le
  unfold f_divide b_divide
  walk_at "ev"
  rw [opMul_i (by omega) (by omega), opMul_i (by omega) (by omega)]
  walk_at "ev"
  rw [reduced_eq h1 (by omega)]
  walk_at "ev"
end Law

set_option maxRecDepth 100000
set_option linter.all false
namespace Law
open R PySem L2
/-- a fraction as data -/
def fr (q : Rat) : D := .tup [.int q.num, .int q.den]
theorem fr_fq (q : Rat) : fr q = fq q.num q.den := (fq_of (p := q.num) (q := (q.den : Int)) (by have := q.reduced; exact this)).symm
theorem den_pos' (q : Rat) : (0 : Int) < q.den := by have := q.den_nz; omega
theorem rat_mul_den (q : Rat) : q * (q.den : Int) = (q.num : Rat) := by
  have h : q = (q.num : Rat) / ((q.den : Int) : Rat) := by rw [← Rat.divInt_eq_div, Rat.num_divInt_den]
  have h0 : ((q.den : Int) : Rat) ≠ 0 := by
    intro e
    have : (q.den : Int) = 0 := by exact_mod_cast e
    have := q.den_nz
    omega
  have h1 : (q.num : Rat) / ((q.den : Int) : Rat) * ((q.den : Int) : Rat) = (q.num : Rat) := by grind
  rwa [← h] at h1
theorem cast_ne {b : Int} (h : b ≠ 0) : (b : Rat) ≠ 0 := fun e => h (by exact_mod_cast e)
theorem fq_fr {t b : Int} (hb : 0 < b) : fq t b = fr ((t : Rat) / (b : Rat)) := by
  have hb' := cast_ne (show b ≠ 0 by omega)
  generalize hq : (t : Rat) / (b : Rat) = q
  have e : q * b = t := by grind
  have e2 := rat_mul_den q
  rw [fr_fq]
  refine fq_cross hb (den_pos' q) ?_
  have : (t : Rat) * ((q.den : Int) : Rat) = (q.num : Rat) * (b : Rat) := by rw [← e, ← e2]; grind
  exact_mod_cast this
theorem fr_inj {p q : Rat} (h : fr p = fr q) : p = q := by
  unfold fr at h
  simp only [D.tup.injEq, List.cons.injEq, D.int.injEq, and_true] at h
  exact Rat.ext h.1 (by have := h.2; omega)
/-- sizes -/
def Sz (n : Nat) (q : Rat) : Prop := q.num.natAbs < 2 ^ n ∧ q.den < 2 ^ n
theorem Sz.mono {n m : Nat} {q : Rat} (h : Sz n q) (hn : n ≤ m) : Sz m q := ⟨Nat.lt_of_lt_of_le h.1 (Nat.pow_le_pow_right (by omega) hn), Nat.lt_of_lt_of_le h.2 (Nat.pow_le_pow_right (by omega) hn)⟩
theorem sz_div {n : Nat} {t b : Int} (hb : 0 < b) (h1 : t.natAbs < 2 ^ n) (h2 : b.natAbs < 2 ^ n) : Sz n ((t : Rat) / (b : Rat)) := by
  obtain ⟨p, q, g, e, h3, h4, h5, h6, h7, h8, _⟩ := fq_parts t b hb
  rw [fq_fr hb] at e
  unfold fr at e
  simp only [D.tup.injEq, List.cons.injEq, D.int.injEq, and_true] at e
  exact ⟨by rw [e.1]; omega, by have := e.2; omega⟩
theorem sz_ba {n : Nat} {q : Rat} (h : Sz n q) (hn : n ≤ 4000) : q.num.natAbs < BA ∧ ((q.den : Int)).natAbs < BA := by
  have h' := h.mono hn
  exact ⟨h'.1, h'.2⟩
theorem nat_add_lt {a b n m : Nat} (ha : a < 2 ^ n) (hb : b < 2 ^ m) : a + b < 2 ^ (n + m + 1) := by
  have h1 : 2 ^ n ≤ 2 ^ (n + m) := Nat.pow_le_pow_right (by omega) (by omega)
  have h2 : 2 ^ m ≤ 2 ^ (n + m) := Nat.pow_le_pow_right (by omega) (by omega)
  rw [Nat.pow_succ]
  omega
theorem nat_mul_lt {a b n m : Nat} (ha : a < 2 ^ n) (hb : b < 2 ^ m) : a * b < 2 ^ (n + m) := by
  rw [Nat.pow_add]
  exact Nat.mul_lt_mul_of_lt_of_le ha (Nat.le_of_lt hb) (by omega)
theorem sz_add {n m : Nat} {p q : Rat} (hp : Sz n p) (hq : Sz m q) : Sz (n + m + 1) (p + q) := by
  have e : p + q = ((p.num * q.den + q.num * p.den : Int) : Rat) / ((p.den * q.den : Int) : Rat) := by
    have h1 := rat_mul_den p
    have h2 := rat_mul_den q
    have n1 := cast_ne (show (p.den : Int) ≠ 0 by have := p.den_nz; omega)
    have n2 := cast_ne (show (q.den : Int) ≠ 0 by have := q.den_nz; omega)
    simp only [Rat.intCast_add, Rat.intCast_mul]
    generalize ((p.den : Int) : Rat) = a at *
    generalize ((q.den : Int) : Rat) = b at *
    rw [← h1, ← h2]
    grind
  rw [e]
  have m1 := nat_mul_lt hp.1 hq.2
  have m2 := nat_mul_lt hq.1 hp.2
  have m3 := nat_mul_lt hp.2 hq.2
  refine sz_div (Int.mul_pos (den_pos' p) (den_pos' q)) ?_ ?_
  · have a1 : (p.num * q.den).natAbs = p.num.natAbs * q.den := by rw [Int.natAbs_mul]; rfl
    have a2 : (q.num * p.den).natAbs = q.num.natAbs * p.den := by rw [Int.natAbs_mul]; rfl
    rw [show n + m + 1 = n + m + 1 from rfl, Nat.pow_succ]
    rw [Nat.add_comm m n] at m2
    omega
  · have a3 : ((p.den : Int) * q.den).natAbs = p.den * q.den := by rw [Int.natAbs_mul]; rfl
    rw [a3, Nat.pow_succ]
    omega
theorem sz_neg {n : Nat} {q : Rat} (h : Sz n q) : Sz n (-q) := ⟨by rw [Rat.neg_num]; simpa using h.1, by rw [Rat.neg_den]; exact h.2⟩
theorem sz_sub {n m : Nat} {p q : Rat} (hp : Sz n p) (hq : Sz m q) : Sz (n + m + 1) (p - q) := by
  rw [Rat.sub_eq_add_neg]
  exact sz_add hp (sz_neg hq)
theorem sz_mul {n m : Nat} {p q : Rat} (hp : Sz n p) (hq : Sz m q) : Sz (n + m) (p * q) := by
  have e : p * q = ((p.num * q.num : Int) : Rat) / ((p.den * q.den : Int) : Rat) := by
    have h1 := rat_mul_den p
    have h2 := rat_mul_den q
    have n1 := cast_ne (show (p.den : Int) ≠ 0 by have := p.den_nz; omega)
    have n2 := cast_ne (show (q.den : Int) ≠ 0 by have := q.den_nz; omega)
    simp only [Rat.intCast_add, Rat.intCast_mul]
    generalize ((p.den : Int) : Rat) = a at *
    generalize ((q.den : Int) : Rat) = b at *
    rw [← h1, ← h2]
    grind
  rw [e]
  refine sz_div (Int.mul_pos (den_pos' p) (den_pos' q)) ?_ ?_
  · rw [Int.natAbs_mul]; exact nat_mul_lt hp.1 hq.1
  · rw [Int.natAbs_mul]; exact nat_mul_lt hp.2 hq.2
end Law

set_option maxRecDepth 100000
set_option linter.all false
namespace Law
open R PySem L2
local macro_rules | `(tactic| walk_at "ev") => `(tactic| simp only [mDef, En.start, oSeq, oIf, oRet, oSet, oPar, oNx, oFail, oEx, m2, m1, mA, aCons, aNil, mB, mC, mCh, mT, mNot, mAnd, mOr, mAndV, mOrV, mNotV, mIf, mTup, mLst, mList, asB_b, bind_leaf, bind_fail, lineOk_1, lineOk_2, lineOk_3, mPeek_z, mPeek_s, mVar_z, mVar_s, put_z, put_s, opAdd_i, opSub_i, opNeg_i, cLt_i, cLe_i, cGt_i, cGe_i, cEq_i, cNe_i, fAbs_i, fInt_i, fLen_t, fLen_l, ix0, ix1, Bool.false_eq_true, Bool.not_true, Bool.not_false,
  List.length_cons, List.length_nil, List.map_cons, List.map_nil, List.cons_append, List.nil_append, List.replicate, Nat.reduceAdd, Nat.reduceSub, Nat.zero_add, if_true, if_false, ↓reduceIte])

theorem reduced_fr {t b : Int} (hb : 0 < b) (h1 : b.natAbs < BB) : f_reduced [.int t, .int b] = .leaf (fr ((t : Rat) / (b : Rat))) := by rw [reduced_eq hb h1, fq_fr hb]
theorem frac_add {p q : Rat} : ((p.num * q.den + q.num * p.den : Int) : Rat) / ((p.den * q.den : Int) : Rat) = p + q := by
  have h1 := rat_mul_den p
  have h2 := rat_mul_den q
  have n1 := cast_ne (show (p.den : Int) ≠ 0 by have := p.den_nz; omega)
  have n2 := cast_ne (show (q.den : Int) ≠ 0 by have := q.den_nz; omega)
  simp only [Rat.intCast_add, Rat.intCast_mul]
  generalize ((p.den : Int) : Rat) = a at *
  generalize ((q.den : Int) : Rat) = b at *
  rw [← h1, ← h2]
  grind
theorem frac_sub {p q : Rat} : ((p.num * q.den - q.num * p.den : Int) : Rat) / ((p.den * q.den : Int) : Rat) = p - q := by
  have h1 := rat_mul_den p
  have h2 := rat_mul_den q
  have n1 := cast_ne (show (p.den : Int) ≠ 0 by have := p.den_nz; omega)
  have n2 := cast_ne (show (q.den : Int) ≠ 0 by have := q.den_nz; omega)
  simp only [Rat.intCast_sub, Rat.intCast_mul]
  generalize ((p.den : Int) : Rat) = a at *
  generalize ((q.den : Int) : Rat) = b at *
  rw [← h1, ← h2]
  grind
theorem frac_mul {p q : Rat} : ((p.num * q.num : Int) : Rat) / ((p.den * q.den : Int) : Rat) = p * q := by
  have h1 := rat_mul_den p
  have h2 := rat_mul_den q
  have n1 := cast_ne (show (p.den : Int) ≠ 0 by have := p.den_nz; omega)
  have n2 := cast_ne (show (q.den : Int) ≠ 0 by have := q.den_nz; omega)
  simp only [Rat.intCast_mul]
  generalize ((p.den : Int) : Rat) = a at *
  generalize ((q.den : Int) : Rat) = b at *
  rw [← h1, ← h2]
  grind
theorem frac_div {p q : Rat} (hq : 0 < q) : ((p.num * q.den : Int) : Rat) / ((p.den * q.num : Int) : Rat) = p / q := by
  have h1 := rat_mul_den p
  have h2 := rat_mul_den q
  have n1 := cast_ne (show (p.den : Int) ≠ 0 by have := p.den_nz; omega)
  have n2 := cast_ne (show (q.den : Int) ≠ 0 by have := q.den_nz; omega)
  simp only [Rat.intCast_mul]
  generalize ((p.den : Int) : Rat) = a at *
  generalize ((q.den : Int) : Rat) = b at *
  rw [← h1, ← h2]
  grind
theorem add_fr {p q : Rat} (hp : Sz 4000 p) (hq : Sz 4000 q) : f_add [fr p, fr q] = .leaf (fr (p + q)) := by
  obtain ⟨a1, a2⟩ := sz_ba hp (by omega)
  obtain ⟨b1, b2⟩ := sz_ba hq (by omega)
  show f_add [.tup [.int p.num, .int p.den], .tup [.int q.num, .int q.den]] = _
  rw [add_eq (den_pos' p) (den_pos' q) a1 a2 b1 b2, fq_fr (Int.mul_pos (den_pos' p) (den_pos' q)), frac_add]
theorem take_fr {p q : Rat} (hp : Sz 4000 p) (hq : Sz 4000 q) : f_take [fr p, fr q] = .leaf (fr (p - q)) := by
  obtain ⟨a1, a2⟩ := sz_ba hp (by omega)
  obtain ⟨b1, b2⟩ := sz_ba hq (by omega)
  show f_take [.tup [.int p.num, .int p.den], .tup [.int q.num, .int q.den]] = _
  rw [take_eq (den_pos' p) (den_pos' q) a1 a2 b1 b2, fq_fr (Int.mul_pos (den_pos' p) (den_pos' q)), frac_sub]
theorem multiply_fr {p q : Rat} (hp : Sz 4000 p) (hq : Sz 4000 q) : f_multiply [fr p, fr q] = .leaf (fr (p * q)) := by
  obtain ⟨a1, a2⟩ := sz_ba hp (by omega)
  obtain ⟨b1, b2⟩ := sz_ba hq (by omega)
  show f_multiply [.tup [.int p.num, .int p.den], .tup [.int q.num, .int q.den]] = _
  rw [multiply_eq (den_pos' p) (den_pos' q) a1 a2 b1 b2, fq_fr (Int.mul_pos (den_pos' p) (den_pos' q)), frac_mul]
theorem num_pos {q : Rat} (h : 0 < q) : 0 < q.num := by
  have h1 : 0 ≤ q.num := Rat.num_nonneg.mpr (by grind)
  have h2 : q.num ≠ 0 := by
    intro e
    have := rat_mul_den q
    rw [e] at this
    have n2 := cast_ne (show (q.den : Int) ≠ 0 by have := q.den_nz; omega)
    generalize ((q.den : Int) : Rat) = b at *
    have z : ((0 : Int) : Rat) = 0 := by rfl
    rw [z] at this
    grind
  omega
theorem divide_fr {p q : Rat} (hp : Sz 4000 p) (hq : Sz 4000 q) (h0 : 0 < q) : f_divide [fr p, fr q] = .leaf (fr (p / q)) := by
  obtain ⟨a1, a2⟩ := sz_ba hp (by omega)
  obtain ⟨b1, b2⟩ := sz_ba hq (by omega)
  show f_divide [.tup [.int p.num, .int p.den], .tup [.int q.num, .int q.den]] = _
  rw [divide_eq (den_pos' p) (num_pos h0) a1 a2 b1 b2, fq_fr (Int.mul_pos (den_pos' p) (num_pos h0)), frac_div h0]
theorem cEq_fr (p q : Rat) : cEq (fr p) (fr q) = .leaf (decide (p = q)) := by
  show Tree.leaf (((p.num == q.num) && (((p.den : Int) == (q.den : Int)) && true))) = _
  refine congrArg _ ?_
  rw [Bool.and_true]
  by_cases h : p = q
  · subst h; simp
  · rw [decide_eq_false h]
    cases e1 : (p.num == q.num)
    · rfl
    · cases e2 : ((p.den : Int) == (q.den : Int))
      · rfl
      · exact absurd (Rat.ext (by simpa using e1) (by have := (beq_iff_eq.mp e2 : (p.den : Int) = q.den); omega)) h
theorem cNe_fr (p q : Rat) : cNe (fr p) (fr q) = .leaf (!decide (p = q)) := by
  have h := cEq_fr p q
  have h' : cNe (fr p) (fr q) = .leaf (!((p.num == q.num) && (((p.den : Int) == (q.den : Int)) && true))) := rfl
  have h'' : cEq (fr p) (fr q) = .leaf ((p.num == q.num) && (((p.den : Int) == (q.den : Int)) && true)) := rfl
  rw [h''] at h
  injection h with h
  rw [h', h]
theorem isint_eq (t : Int) : f_is_integer [.int t] = .leaf (.bl true) := by
  unfold f_is_integer b_is_integer
  walk_at "ev"
  rfl
theorem fracof_fr {q : Rat} (h : Sz 8000 q) : f_is_fraction_of [fr q] = .leaf (.bl true) := by
  have hB : ((q.den : Int)).natAbs < BB := Nat.lt_of_lt_of_le h.2 (by unfold BB; exact Nat.pow_le_pow_right (by omega) (by omega))
  have hd : f_divisor [.int (if q.num < 0 then -q.num else q.num), .int q.den] = .leaf (.int 1) := by
    rw [divisor_eq (by split <;> omega) (by omega) hB, abs_gcd, show Int.gcd q.num (q.den : Int) = 1 from q.reduced]; rfl
  have hp := den_pos' q
  have i1 := isint_eq q.num
  have i2 := isint_eq (q.den : Int)
  have t1 : fIsi [.tup [.int q.num, .int q.den], .ty "tuple"] = .leaf (.bl true) := rfl
  unfold fr f_is_fraction_of b_is_fraction_of
  generalize (q.den : Int) = d at *
  generalize q.num = n at *
  generalize f_is_integer = fi at *
  generalize f_divisor = fd at *
  generalize fIsi = fs at *
  walk_at "ev"
  rw [t1]
  walk_at "ev"
  rw [i1, i2]
  walk_at "ev"
  rw [show ((((1 + 1 : Nat) : Int)) == 2) = true from rfl]
  walk_at "ev"
  rw [decide_eq_true (by omega : 1 ≤ d)]
  walk_at "ev"
  rw [hd]
  walk_at "ev"
  rfl
end Law

set_option maxRecDepth 100000
set_option linter.all false
namespace R
open PySem L2
open Tree (leaf fail)
theorem Tree.all_to {α β : Type} {t : Tree α} {f : α → Tree β} {P : α → Prop} {Q : β → Prop} (h : t.all P) (k : ∀ a, P a → (f a).all Q) : (t.bind f).all Q := Tree.all_bind.mpr (Tree.all_mono k h)
theorem range_nil (a : Int) : rangeD a a = [] := by
  unfold rangeD
  rw [Int.sub_self]
  rfl
theorem range_cons (a : Int) (n : Nat) : rangeD a (a + (n + 1 : Nat)) = .int a :: rangeD (a + 1) (a + 1 + n) := by
  unfold rangeD
  rw [show (a + ((n + 1 : Nat) : Int) - a).toNat = n + 1 by omega, show (a + 1 + (n : Int) - (a + 1)).toNat = n by omega, List.range_succ_eq_map, List.map_cons, List.map_map]
  refine congr (congrArg _ (by simp)) (List.map_congr_left fun i _ => ?_)
  show D.int _ = D.int _
  exact congrArg _ (by simp only [Nat.succ_eq_add_one]; omega)
theorem mRange2_i {i j : Int} (h : (rOk i && rOk j) = true) : (match D.int i, D.int j with
  | .int i, .int j => if (rOk i && rOk j) = true then Tree.leaf (rangeD i j) else .fail
  | _, _ => .fail) = .leaf (rangeD i j) := if_pos h
theorem draw_eq {n : Int} (h : (decide (0 < n) && decide (n.natAbs.log2 < 9000)) = true) : fDraw [.pot, .int n] = .draw n.toNat fun i => .leaf (.int i) := if_pos h
theorem all_draw {α : Type} {n : Nat} {k : Nat → Tree α} {P : α → Prop} (h : ∀ i : Nat, i < n → (k i).all P) : (Tree.draw n k).all P := h
theorem all_leaf {α : Type} {a : α} {P : α → Prop} (h : P a) : (Tree.leaf a).all P := h
mutual
def dEq : D → D → Bool
  | .non, .non => true
  | .bl a, .bl b => a == b
  | .int i, .int j => decide (i = j)
  | .tup xs, .tup ys => dsEq xs ys
  | .lst xs, .lst ys => dsEq xs ys
  | .pot, .pot => true
  | _, _ => false
def dsEq : List D → List D → Bool
  | [], [] => true
  | x :: xs, y :: ys => dEq x y && dsEq xs ys
  | _, _ => false
end
mutual
theorem dEq_eq : ∀ {a b : D}, dEq a b = true → a = b
  | .non, b, h => by cases b <;> first | rfl | cases h
  | .bl a, b, h => by
    cases b with
    | bl b => exact congrArg _ (by simpa [dEq] using h)
    | _ => cases h
  | .int a, b, h => by
    cases b with
    | int b => exact congrArg _ (by simpa [dEq] using h)
    | _ => cases h
  | .tup a, b, h => by
    cases b with
    | tup b => exact congrArg _ (dsEq_eq (by simpa [dEq] using h))
    | _ => cases h
  | .lst a, b, h => by
    cases b with
    | lst b => exact congrArg _ (dsEq_eq (by simpa [dEq] using h))
    | _ => cases h
  | .pot, b, h => by cases b <;> first | rfl | cases h
  | .str a, b, h => by cases b <;> cases h
  | .ty a, b, h => by cases b <;> cases h
  | .scr a, b, h => by cases b <;> cases h
theorem dsEq_eq : ∀ {a b : List D}, dsEq a b = true → a = b
  | [], b, h => by cases b <;> first | rfl | cases h
  | x :: xs, b, h => by
    cases b with
    | nil => cases h
    | cons y ys =>
      have h : (dEq x y && dsEq xs ys) = true := by simpa [dsEq] using h
      rw [Bool.and_eq_true] at h
      rw [dEq_eq h.1, dsEq_eq h.2]
end
def isL {α : Type} (p : α → Bool) : Tree α → Bool
  | .leaf a => p a
  | _ => false
theorem isL_eq {t : Tree D} {d : D} (h : isL (dEq d) t = true) : t = .leaf d := by
  cases t with
  | leaf a => exact congrArg _ (dEq_eq h).symm
  | fail => cases h
  | draw n k => cases h
theorem isL_b {t : Tree Bool} {d : Bool} (h : isL (d == ·) t = true) : t = .leaf d := by
  cases t with
  | leaf a => exact congrArg _ (by simpa [isL] using h : d = a).symm
  | fail => cases h
  | draw n k => cases h
theorem lc_map {β : Type} {g : D → En → Tree En} {mt : En → Tree Bool} {me : En → Tree D} {E : En} {dx f : β → D} : ∀ L : List β, (∀ x ∈ L, ∃ E', g (dx x) E = .leaf E' ∧ mt E' = .leaf true ∧ me E' = .leaf (f x)) → lcLoop g mt me E (L.map dx) = .leaf (L.map f)
  | [], _ => rfl
  | x :: L, h => by
    obtain ⟨E', h1, h2, h3⟩ := h x List.mem_cons_self
    rw [List.map_cons, List.map_cons]
    unfold lcLoop
    rw [h1, bind_leaf, h2, bind_leaf, if_pos rfl, h3, bind_leaf, lc_map L fun y hy => h y (List.mem_cons_of_mem _ hy)]
    rfl
theorem mLc_at {β : Type} {mi : En → Tree (List D)} {vs : List Nat} {g : D → En → Tree En} {mt : En → Tree Bool} {me : En → Tree D} {E : En} {dx f : β → D} {L : List β} (hi : mi E = .leaf (L.map dx)) (hl : L.length ≤ 100) (h : ∀ x ∈ L, ∃ E', g (dx x) (wipeE E vs) = .leaf E' ∧ mt E' = .leaf true ∧ me E' = .leaf (f x)) : mLc mi vs g mt me E = .leaf (L.map f) := by
  unfold mLc
  rw [hi, bind_leaf, lineOk_s _ _ (by rw [List.length_map]; exact hl), lc_map L h]
theorem zip_map {β : Type} {f g : β → D} : ∀ L : List β, zipD (L.map f) (L.map g) = L.map fun x => .tup [f x, g x]
  | [] => rfl
  | x :: L => by rw [List.map_cons, List.map_cons, List.map_cons]; unfold zipD; rw [zip_map L]
theorem bls_true {β : Type} : ∀ L : List β, blsD (L.map fun _ => D.bl true) = some (L.map fun _ => true)
  | [] => rfl
  | x :: L => by rw [List.map_cons, List.map_cons]; unfold blsD; rw [bls_true L]; rfl
theorem all_true {β : Type} (L : List β) : fAll [.lst (L.map fun _ => D.bl true)] = .leaf (.bl true) := by
  show withO _ _ = _
  unfold withO
  rw [bls_true]
  simp
theorem range_n (n : Nat) : rangeD 0 (n : Int) = (List.range n).map fun i : Nat => .int (i : Int) := by
  unfold rangeD
  rw [show ((n : Int) - 0).toNat = n by omega]
  exact List.map_congr_left fun i _ => by rw [Int.zero_add]
theorem range1_i {m : En → Tree D} {E : En} {j : Int} (h : m E = .leaf (.int j)) (k2 : -(2 ^ 62) ≤ j ∧ j < 2 ^ 62) : mRange1 m E = .leaf (rangeD 0 j) := by
  unfold mRange1
  rw [h]
  simp only [bind_leaf]
  refine if_pos ?_
  unfold rOk
  simp only [Bool.and_eq_true, decide_eq_true_eq]
  exact k2
theorem range1_at {m : En → Tree D} {E : En} {n : Nat} (h : m E = .leaf (.int n)) (hn : n ≤ 100) : mRange1 m E = .leaf ((List.range n).map fun i : Nat => .int (i : Int)) := by
  rw [← range_n]
  exact range1_i h ⟨by omega, by omega⟩
end R
namespace Law
open R PySem L2
theorem dr (n : Int) (h0 : 0 < n) (h1 : n < 10 ^ 60) : f_law_draw [.pot, .int n] = .draw n.toNat fun i => .leaf (.int i) := by
  unfold f_law_draw
  refine draw_eq ?_
  have h2 : n.natAbs.log2 < 200 := (Nat.log2_lt (by omega)).mpr (Nat.lt_of_lt_of_le (show n.natAbs < 10 ^ 60 by omega) (by decide))
  rw [decide_eq_true h0, decide_eq_true (show n.natAbs.log2 < 9000 by omega)]; rfl
theorem drp (n : Int) (h0 : 0 < n) (h1 : n < 10 ^ 60) : (f_law_draw [.pot, .int n]).all fun d => ∃ i : Int, 0 ≤ i ∧ i < n ∧ d = .int i := by
  rw [dr n h0 h1]
  exact all_draw fun i hi => all_leaf ⟨i, by omega, by omega, rfl⟩
structure AllS {α : Type} (P : α → Prop) (t : Tree α) : Prop where
  h : t.all P
theorem allS_bind {α β : Type} {P : β → Prop} {f : α → Tree β} {t : Tree α} : AllS P (t.bind f) = AllS (fun a => AllS P (f a)) t :=
  propext ⟨fun ⟨h⟩ => ⟨Tree.all_mono (fun _ k => ⟨k⟩) (Tree.all_bind.mp h)⟩, fun ⟨h⟩ => ⟨Tree.all_bind.mpr (Tree.all_mono (fun _ k => k.h) h)⟩⟩
theorem allS_leaf {α : Type} {P : α → Prop} {a : α} : AllS P (.leaf a) = P a := propext ⟨fun h => h.h, fun h => ⟨h⟩⟩
theorem allL {α : Type} {a : α} {P : α → Prop} : (Tree.leaf a).all P = P a := rfl
theorem range2_at {m m' : En → Tree D} {E : En} {i j : Int} (h : m E = .leaf (.int i)) (h' : m' E = .leaf (.int j)) (k1 : -(2 ^ 62) ≤ i ∧ i < 2 ^ 62) (k2 : -(2 ^ 62) ≤ j ∧ j < 2 ^ 62) : mRange2 m m' E = .leaf (rangeD i j) := by
  unfold mRange2
  rw [h, h']
  simp only [bind_leaf]
  refine if_pos ?_
  unfold rOk
  simp only [Bool.and_eq_true, decide_eq_true_eq]
  exact ⟨k1, k2⟩
theorem for_at {mi : En → Tree (List D)} {g : D → En → Tree En} {m : En → Tree Out} {E : En} {ds : List D} {t : Tree Out} (h : mi E = .leaf ds) (k : oLoop g m ds E = t) : oFor mi g m E = t := by
  unfold oFor
  rw [h]
  exact k
theorem all_go {t : Tree D} {Q : D → Prop} {n : Int} (h : t.all fun d => ∃ i : Int, 0 ≤ i ∧ i < n ∧ d = .int i) (k : ∀ i : Int, 0 ≤ i → i < n → Q (.int i)) : t.all Q := Tree.all_mono (fun d ⟨i, a, b, e⟩ => e ▸ k i a b) h
theorem allS_go {t : Tree D} {Q : D → Prop} {n : Int} (h : AllS (fun d => ∃ i : Int, 0 ≤ i ∧ i < n ∧ d = .int i) t) (k : ∀ i : Int, 0 ≤ i → i < n → Q (.int i)) : AllS Q t := ⟨Tree.all_mono (fun d ⟨i, a, b, e⟩ => e ▸ k i a b) h.h⟩
theorem drS (n : Int) (h0 : 0 < n) (h1 : n < 10 ^ 60) : AllS (fun d => ∃ i : Int, 0 ≤ i ∧ i < n ∧ d = .int i) (f_law_draw [.pot, .int n]) := ⟨drp n h0 h1⟩
end Law

set_option maxRecDepth 100000
set_option linter.all false
namespace R
open PySem L2
theorem seq_l (ds : List D) : seqOf (.lst ds) = .leaf ds := Eq.trans rfl rfl
theorem seq_t (ds : List D) : seqOf (.tup ds) = .leaf ds := Eq.trans rfl rfl
end R
namespace Law
open R PySem L2
local macro_rules | `(tactic| walk_at "ev") => `(tactic| simp only [mDef, En.start, oSeq, oIf, oRet, oSet, oPar, oNx, oFail, oEx, m2, m1, mA, aCons, aNil, mB, mC, mCh, mT, mNot, mAnd, mOr, mAndV, mOrV, mNotV, mIf, mTup, mLst, mList, asB_b, allS_leaf, wipe_n, wipe_c, wset_z, wset_s, tYesM, oAsg, gPut, gTp, gsCons, gsNil, mSeq, seq_l, seq_t, bind_leaf, bind_fail, lineOk_1, lineOk_2, lineOk_3, mPeek_z, mPeek_s, mVar_z, mVar_s, put_z, put_s, opAdd_i, opSub_i, opNeg_i, cLt_i, cLe_i, cGt_i, cGe_i, cEq_i, cNe_i, fAbs_i, fInt_i, fLen_t, fLen_l, ix0, ix1, Bool.false_eq_true, Bool.not_true, Bool.not_false,
  List.length_cons, List.length_nil, List.map_cons, List.map_nil, List.cons_append, List.nil_append, List.replicate, Nat.reduceAdd, Nat.reduceSub, Nat.zero_add, if_true, if_false, ↓reduceIte])

def Sh (q : Rat) : Prop := q.num.natAbs < 10 ^ 12 ∧ q.den < 10 ^ 12
theorem sh_sz {q : Rat} (h : Sh q) : Sz 40 q := ⟨Nat.lt_of_lt_of_le h.1 (by decide), Nat.lt_of_lt_of_le h.2 (by decide)⟩
theorem short_fr {q : Rat} (h : Sh q) : f_is_short [fr q] = .leaf (.bl true) := by
  have hf := fracof_fr ((sh_sz h).mono (m := 8000) (by omega))
  obtain ⟨h1, h2⟩ := h
  unfold fr at hf ⊢
  unfold f_is_short b_is_short
  generalize hn : q.num = n at *
  generalize hd : (q.den : Int) = d at *
  have h3 : d < 10 ^ 12 := by omega
  clear hd h2
  generalize f_is_fraction_of = fi at *
  walk_at "ev"
  rw [hf]
  walk_at "ev"
  rw [decide_eq_true (by split <;> omega)]
  walk_at "ev"
  rw [decide_eq_true (by omega)]
theorem total_loop_fr {p : Option Slot} {n : Nat} : ∀ (L : List Rat) (a : Rat) (x : Option Slot) (m : Nat), Sz m a → (∀ q ∈ L, Sz n q) → m + L.length * (n + 1) ≤ 4000 → n ≤ 4000 →
    ∃ y, oLoop (gPut 2) (oSet 1 (mA f_add (aCons (mVar 1) (aCons (mVar 2) aNil)))) (L.map fr) [p, some ⟨false, fr a⟩, x] = .leaf (.nx [p, some ⟨false, fr (a + L.sum)⟩, y])
  | [], a, x, m, _, _, _, _ => ⟨x, by rw [show a + ([] : List Rat).sum = a by simp; grind]; rfl⟩
  | q :: L, a, x, m, ha, hL, hm, hn => by
    have hm : m + (L.length + 1) * (n + 1) ≤ 4000 := hm
    have e : (L.length + 1) * (n + 1) = L.length * (n + 1) + (n + 1) := Nat.succ_mul _ _
    have hq := hL q List.mem_cons_self
    obtain ⟨y, ih⟩ := total_loop_fr (p := p) (n := n) L (a + q) (some ⟨false, fr q⟩) (m + n + 1) (sz_add ha hq) (fun q hq => hL q (List.mem_cons_of_mem _ hq)) (by omega) hn
    refine ⟨y, ?_⟩
    have k := add_fr (ha.mono (m := 4000) (by omega)) (hq.mono (m := 4000) hn)
    rw [List.map_cons]
    unfold oLoop
    generalize f_add = fa at *
    walk_at "ev"
    rw [k]
    walk_at "ev"
    rw [ih, List.sum_cons, Rat.add_assoc]
theorem fr_zero : fr 0 = .tup [.int 0, .int 1] := rfl
theorem fr_one : fr 1 = .tup [.int 1, .int 1] := rfl
theorem sz_zero (n : Nat) (h : 1 ≤ n) : Sz n 0 := ⟨Nat.pow_pos (by omega), Nat.lt_of_lt_of_le (show 1 < 2 ^ 1 by decide) (Nat.pow_le_pow_right (by omega) h)⟩
theorem total_l {n : Nat} (L : List Rat) (hL : ∀ q ∈ L, Sz n q) (h : 1 + L.length * (n + 1) ≤ 4000) (hn : n ≤ 4000) : f_total [.lst (L.map fr)] = .leaf (fr L.sum) := by
  obtain ⟨y, hl⟩ := total_loop_fr (p := some ⟨false, .lst (L.map fr)⟩) L 0 none 1 (sz_zero 1 (by omega)) hL h hn
  rw [show (0 : Rat) + L.sum = L.sum by grind, fr_zero] at hl
  unfold f_total b_total
  generalize f_add = fa at *
  have hs : mSeq (mVar 0) [some ⟨false, .lst (L.map fr)⟩, some ⟨false, .tup [.int 0, .int 1]⟩, none] = .leaf (L.map fr) := by walk_at "ev"
  have hf := for_at hs hl
  generalize oFor = ff at *
  generalize L.map fr = z at *
  walk_at "ev"
  rw [hf]
  walk_at "ev"
theorem total_t {n : Nat} (L : List Rat) (hL : ∀ q ∈ L, Sz n q) (h : 1 + L.length * (n + 1) ≤ 4000) (hn : n ≤ 4000) : f_total [.tup (L.map fr)] = .leaf (fr L.sum) := by
  obtain ⟨y, hl⟩ := total_loop_fr (p := some ⟨false, .tup (L.map fr)⟩) L 0 none 1 (sz_zero 1 (by omega)) hL h hn
  rw [show (0 : Rat) + L.sum = L.sum by grind, fr_zero] at hl
  unfold f_total b_total
  generalize f_add = fa at *
  have hs : mSeq (mVar 0) [some ⟨false, .tup (L.map fr)⟩, some ⟨false, .tup [.int 0, .int 1]⟩, none] = .leaf (L.map fr) := by walk_at "ev"
  have hf := for_at hs hl
  generalize oFor = ff at *
  generalize L.map fr = z at *
  walk_at "ev"
  rw [hf]
  walk_at "ev"
structure LotQ (L : List Rat) : Prop where
  l1 : 1 ≤ L.length
  l8 : L.length ≤ 8
  nn : ∀ q ∈ L, 0 ≤ q
  one : L.sum = 1
  sh : ∀ q ∈ L, Sh q
def lotD (L : List Rat) : D := .tup (L.map fr)
theorem islot_fr {L : List Rat} (h : LotQ L) : f_is_lot_of [lotD L] = .leaf (.bl true) := by
  have hs : ∀ q ∈ L, Sz 40 q := fun q hq => sh_sz (h.sh q hq)
  have l8 := h.l8
  have l1 := h.l1
  have ht := total_t L hs (by omega) (by omega)
  rw [h.one] at ht
  have hl : fLen [lotD L] = .leaf (.int L.length) := by unfold lotD; rw [fLen_t, List.length_map]
  have hi : fIsi [lotD L, .ty "tuple"] = .leaf (.bl true) := rfl
  have he := cEq_fr 1 1
  rw [decide_eq_true rfl, fr_one] at he
  rw [fr_one] at ht
  have hc : mLc (mSeq (mPeek 0)) [1] (gPut 1) tYesM (mAndV (mA f_is_fraction_of (aCons (mVar 1) aNil)) (mB (mC cGe (m2 opIx (mPeek 1) (fun _ => .leaf (.int 0))) (fun _ => .leaf (.int 0))))) [some ⟨false, lotD L⟩, none] = .leaf (L.map fun _ => .bl true) := by
    refine mLc_at (L := L) (dx := fr) (by unfold lotD; walk_at "ev") (by omega) fun q hq => ⟨[some ⟨false, lotD L⟩, some ⟨false, fr q⟩], by walk_at "ev", rfl, ?_⟩
    have k := fracof_fr ((hs q hq).mono (m := 8000) (by omega))
    have k2 : 0 ≤ q.num := Rat.num_nonneg.mpr (h.nn q hq)
    generalize f_is_fraction_of = fi at *
    walk_at "ev"
    rw [k]
    walk_at "ev"
    unfold fr
    generalize q.num = n at *
    walk_at "ev"
    rw [decide_eq_true k2]
  have ha := all_true L
  unfold f_is_lot_of b_is_lot_of
  rw [show D.tup (L.map fr) = lotD L from rfl] at ht
  have i1 : (1 : Int) ≤ L.length := by omega
  have i2 : (L.length : Int) ≤ 8 := by omega
  clear hs l8 l1
  generalize (L.length : Int) = n at *
  generalize L.map (fun _ => D.bl true) = bs at *
  generalize lotD L = l at *
  generalize mLc = ml at *
  generalize fIsi = fi at *
  generalize fLen = fl at *
  generalize fAll = fa at *
  generalize f_total = ft at *
  generalize cEq = ce at *
  walk_at "ev"
  rw [hi]
  walk_at "ev"
  rw [hl]
  walk_at "ev"
  rw [decide_eq_true i1]
  walk_at "ev"
  rw [decide_eq_true i2]
  walk_at "ev"
  rw [hc]
  walk_at "ev"
  rw [ha]
  walk_at "ev"
  rw [ht]
  walk_at "ev"
  rw [he]
  walk_at "ev"
end Law

set_option maxRecDepth 100000
set_option linter.all false
namespace R
open PySem L2
theorem zip_at {m m' : En → Tree D} {E : En} {d d' : D} {ds es : List D} (h : m E = .leaf d) (h' : m' E = .leaf d') (s : seqOf d = .leaf ds) (s' : seqOf d' = .leaf es) : mZip m m' E = .leaf (zipD ds es) := by
  unfold mZip
  rw [h, bind_leaf, h', bind_leaf, s, bind_leaf, s', bind_leaf]
end R
namespace Law
open R PySem L2
local macro_rules | `(tactic| walk_at "ev") => `(tactic| simp only [mDef, En.start, oSeq, oIf, oRet, oSet, oPar, oNx, oFail, oEx, m2, m1, mA, aCons, aNil, mB, mC, mCh, mT, mNot, mAnd, mOr, mAndV, mOrV, mNotV, mIf, mTup, mLst, mList, asB_b, allS_leaf, wipe_n, wipe_c, wset_z, wset_s, tYesM, oAsg, gPut, gTp, gsCons, gsNil, mSeq, seq_l, seq_t, bind_leaf, bind_fail, lineOk_1, lineOk_2, lineOk_3, mPeek_z, mPeek_s, mVar_z, mVar_s, put_z, put_s, opAdd_i, opSub_i, opNeg_i, cLt_i, cLe_i, cGt_i, cGe_i, cEq_i, cNe_i, fAbs_i, fInt_i, fLen_t, fLen_l, ix0, ix1, Bool.false_eq_true, Bool.not_true, Bool.not_false,
  List.length_cons, List.length_nil, List.map_cons, List.map_nil, List.cons_append, List.nil_append, List.replicate, Nat.reduceAdd, Nat.reduceSub, Nat.zero_add, if_true, if_false, ↓reduceIte])

theorem zip_fr : ∀ P Q : List Rat, zipD (P.map fr) (Q.map fr) = (P.zip Q).map fun x => .tup [fr x.1, fr x.2]
  | [], _ => by simp [zipD]
  | _ :: _, [] => by simp [zipD]
  | p :: P, q :: Q => by simp only [List.map_cons, zipD, List.zip_cons_cons, zip_fr P Q]
theorem shortlot_fr {L : List Rat} (h : LotQ L) : f_is_short_lot [lotD L] = .leaf (.bl true) := by
  have k1 := islot_fr h
  have hc : mLc (mSeq (mPeek 0)) [1] (gPut 1) tYesM (mA f_is_short (aCons (mVar 1) aNil)) [some ⟨false, lotD L⟩, none] = .leaf (L.map fun _ => .bl true) := by
    refine mLc_at (L := L) (dx := fr) (by unfold lotD; walk_at "ev") (by have := h.l8; omega) fun q hq => ⟨[some ⟨false, lotD L⟩, some ⟨false, fr q⟩], by walk_at "ev", rfl, ?_⟩
    have k := short_fr (h.sh q hq)
    generalize f_is_short = fi at *
    walk_at "ev"
    rw [k]
  have ha := all_true L
  unfold f_is_short_lot b_is_short_lot
  generalize L.map (fun _ => D.bl true) = bs at *
  generalize f_is_lot_of = fi at *
  generalize fAll = fa at *
  generalize mLc = ml at *
  generalize lotD L = l at *
  walk_at "ev"
  rw [k1]
  walk_at "ev"
  rw [hc]
  walk_at "ev"
  rw [ha]
  walk_at "ev"
theorem checklot_fr {L : List Rat} (h : LotQ L) : f_check_lot [lotD L] = .leaf .non := by
  have k1 := shortlot_fr h
  unfold f_check_lot b_check_lot
  generalize f_is_short_lot = fi at *
  walk_at "ev"
  rw [k1]
  walk_at "ev"
theorem two_fr {P Q : List Rat} (hP : LotQ P) (hQ : LotQ Q) : f_check_two [lotD P, lotD Q] = .leaf .non := by
  have k1 := checklot_fr hP
  have k2 := checklot_fr hQ
  unfold f_check_two b_check_two
  generalize f_check_lot = fi at *
  walk_at "ev"
  rw [k1]
  walk_at "ev"
  rw [k2]
  walk_at "ev"
theorem len_lot (L : List Rat) : fLen [lotD L] = .leaf (.int L.length) := by unfold lotD; rw [fLen_t, List.length_map]
def ab (p q : Rat) : Rat := if p < q then q - p else p - q
theorem sz_ab {n : Nat} {p q : Rat} (hp : Sz n p) (hq : Sz n q) : Sz (n + n + 1) (ab p q) := by
  unfold ab
  split
  · exact sz_sub hq hp
  · exact sz_sub hp hq
def dist (P Q : List Rat) : Rat := ((P.zip Q).map fun x => ab x.1 x.2).sum / 2
theorem sum_sz {n : Nat} (hn : 1 ≤ n) : ∀ L : List Rat, (∀ q ∈ L, Sz n q) → Sz (1 + L.length * (n + 1)) L.sum
  | [], _ => by
    show Sz (1 + 0 * (n + 1)) 0
    rw [Nat.zero_mul]
    exact sz_zero 1 (by omega)
  | q :: L, h => by
    rw [List.sum_cons]
    have := sz_add (h q List.mem_cons_self) (sum_sz hn L fun q hq => h q (List.mem_cons_of_mem _ hq))
    refine this.mono ?_
    rw [List.length_cons, Nat.succ_mul]
    omega
theorem fr_two : fr 2 = .tup [.int 2, .int 1] := rfl
theorem zsz {P Q : List Rat} (hP : LotQ P) (hQ : LotQ Q) : (∀ x ∈ P.zip Q, Sz 40 x.1 ∧ Sz 40 x.2) ∧ (P.zip Q).length ≤ 8 :=
  ⟨fun x hx => ⟨sh_sz (hP.sh _ (List.of_mem_zip hx).1), sh_sz (hQ.sh _ (List.of_mem_zip hx).2)⟩, by rw [List.length_zip]; have := hP.l8; omega⟩
theorem abs_sz {P Q : List Rat} (hP : LotQ P) (hQ : LotQ Q) : ∀ q ∈ (P.zip Q).map (fun x => ab x.1 x.2), Sz 81 q := by
  obtain ⟨zs, zl⟩ := zsz hP hQ
  intro q hq
  obtain ⟨x, hx, rfl⟩ := List.mem_map.mp hq
  exact sz_ab (zs x hx).1 (zs x hx).2
theorem abs_tot {P Q : List Rat} (hP : LotQ P) (hQ : LotQ Q) : f_total [.lst ((P.zip Q).map fun x => fr (ab x.1 x.2))] = .leaf (fr ((P.zip Q).map fun x => ab x.1 x.2).sum) := by
  obtain ⟨zs, zl⟩ := zsz hP hQ
  have ht := total_l ((P.zip Q).map fun x => ab x.1 x.2) (abs_sz hP hQ) (by rw [List.length_map]; omega) (by omega)
  rw [List.map_map] at ht
  exact ht
theorem sz_two : Sz 4000 2 := Sz.mono (n := 2) ⟨by decide, by decide⟩ (by omega)
theorem abs_half {P Q : List Rat} (hP : LotQ P) (hQ : LotQ Q) : f_divide [fr ((P.zip Q).map fun x => ab x.1 x.2).sum, .tup [.int 2, .int 1]] = .leaf (fr (dist P Q)) := by
  obtain ⟨zs, zl⟩ := zsz hP hQ
  have hz := sum_sz (by omega) _ (abs_sz hP hQ)
  rw [List.length_map] at hz
  rw [← fr_two]
  exact divide_fr (hz.mono (by omega)) sz_two (by decide)
end Law

set_option maxRecDepth 100000
set_option linter.all false
namespace R
open PySem L2
theorem ok_app (a b : Str) (ha : PyData.strOk a = true) (hb : PyData.strOk b = true) : PyData.strOk (a ++ b) = true := by
  unfold PyData.strOk at *
  show (a.cps ++ b.cps).all _ = true
  rw [Array.all_append, ha, hb]; rfl
theorem ok_str (s : String) : PyData.strOk (Str.ofString s) = true := by
  unfold PyData.strOk
  rw [Str.ofString_eq_toList]
  rw [List.all_toArray, List.all_map, List.all_eq_true]
  intro c _
  have := c.valid
  simp only [Function.comp, decide_eq_true_eq]
  have h : c.toNat < 0x110000 := by
    have hv := c.valid
    unfold UInt32.isValidChar Nat.isValidChar at hv
    show c.val.toNat < _
    omega
  exact h
theorem ok_from : ∀ (ts : List Str) (k : Nat) (acc : Str), PyData.strOk acc = true → (∀ t ∈ ts, PyData.strOk t = true) → PyData.strOk (textFrom k acc ts) = true
  | [], _, _, h, _ => h
  | t :: ts, k, acc, h, ht => ok_from ts (k + 1) _ (ok_app _ _ (ok_app _ _ h (ok_str _)) (ht t List.mem_cons_self)) fun u hu => ht u (List.mem_cons_of_mem _ hu)
theorem ok_list (ts : List Str) (ht : ∀ t ∈ ts, PyData.strOk t = true) : PyData.strOk (listText ts) = true :=
  ok_app _ _ (ok_from ts 0 _ (ok_str _) ht) (ok_str _)
theorem ok_join : ∀ ts : List Str, (∀ t ∈ ts, PyData.strOk t = true) → PyData.strOk (Str.join ", " ts) = true
  | [], _ => by decide +kernel
  | [x], h => h x List.mem_cons_self
  | x :: y :: r, h => ok_app _ _ (ok_app _ _ (h x List.mem_cons_self) (ok_str _)) (ok_join (y :: r) fun u hu => h u (List.mem_cons_of_mem _ hu))
theorem ok_tuple (ts : List Str) (ht : ∀ t ∈ ts, PyData.strOk t = true) : PyData.strOk (tupleText ts) = true :=
  ok_app _ _ (ok_app _ _ (ok_str _) (ok_join ts ht)) (ok_str _)
def strB (x : Str) : Bool := PyData.strOk x && (PyData.str x).showable && (PyData.str x).leavesShort 1901 && PyData.strOk (PyData.str x).shown
def numD : Nat → D → Bool
  | 0, _ => false
  | n + 1, d => match d with
    | .non => true
    | .bl _ => true
    | .int i => decide (i.natAbs < 2 ^ 100)
    | .str x => strB x
    | .tup xs => xs.all (numD n)
    | .lst xs => xs.all (numD n)
    | _ => false
theorem int_short {i : Int} (h : i.natAbs.log2 < 1900) : (PyData.shown (.int i)).length ≤ 1901 := by
  have e := int_text_length_le (k := 1900) (by decide) h
  show (Str.ofString (toString i)).length ≤ _
  rw [ofString_length]
  exact e
structure NumOk (d : PyData) : Prop where
  sh : d.showable = true
  ls : d.leavesShort 1901 = true
  ok : PyData.strOk d.shown = true
theorem numOk_all {n : Nat} (ih : ∀ d, numD n d = true → fitD n d = true ∧ NumOk (toPy n d)) : ∀ xs : List D, xs.all (numD n) = true →
    xs.all (fitD n) = true ∧ PyData.showableAll (xs.map (toPy n)) = true ∧ PyData.leavesShortAll 1901 (xs.map (toPy n)) = true ∧ ∀ t ∈ PyData.shownAll (xs.map (toPy n)), PyData.strOk t = true
  | [], _ => ⟨rfl, by simp [PyData.showableAll], by simp [PyData.leavesShortAll], by simp [PyData.shownAll]⟩
  | x :: xs, h => by
    rw [List.all_cons, Bool.and_eq_true] at h
    obtain ⟨a, b⟩ := ih x h.1
    obtain ⟨c1, c2, c3, c4⟩ := numOk_all ih xs h.2
    refine ⟨by rw [List.all_cons, a, c1]; rfl, by rw [List.map_cons, PyData.showableAll, b.sh, c2]; rfl, by rw [List.map_cons, PyData.leavesShortAll, b.ls, c3]; rfl, ?_⟩
    rw [List.map_cons, PyData.shownAll]
    intro t ht
    rcases List.mem_cons.mp ht with e | e
    · exact e ▸ b.ok
    · exact c4 t e
theorem numOk : ∀ (n : Nat) (d : D), numD n d = true → fitD n d = true ∧ NumOk (toPy n d)
  | 0, _, h => by cases h
  | n + 1, d, h => by
    cases d with
    | non => exact ⟨rfl, by simp [toPy, PyData.showable], by simp [toPy, PyData.leavesShort], by simp only [toPy, PyData.shown]; exact ok_str _⟩
    | bl b => exact ⟨rfl, by simp [toPy, PyData.showable], by simp [toPy, PyData.leavesShort], by simp only [toPy, PyData.shown]; cases b <;> exact ok_str _⟩
    | int i =>
      have h0 : i.natAbs < 2 ^ 100 := by simpa [numD] using h
      have h : i.natAbs.log2 < 1900 := by
        by_cases z : i.natAbs = 0
        · rw [z]; decide
        · exact Nat.lt_of_lt_of_le ((Nat.log2_lt z).mpr h0) (by decide)
      exact ⟨rfl, by simp only [toPy, PyData.showable, decide_eq_true_eq]; omega, by simp only [toPy, PyData.leavesShort, decide_eq_true_eq]; exact int_short h, by simp only [toPy, PyData.shown]; exact ok_str _⟩
    | str x =>
      have h : strB x = true := by simpa [numD] using h
      unfold strB at h
      simp only [Bool.and_eq_true] at h
      exact ⟨h.1.1.1, h.1.1.2, h.1.2, h.2⟩
    | tup xs =>
      obtain ⟨c1, c2, c3, c4⟩ := numOk_all (numOk n) xs (by simpa [numD] using h)
      exact ⟨by simp only [fitD]; exact c1, by simp only [toPy, PyData.showable]; exact c2, by simp only [toPy, PyData.leavesShort]; exact c3, by simp only [toPy, PyData.shown]; exact ok_tuple _ c4⟩
    | lst xs =>
      obtain ⟨c1, c2, c3, c4⟩ := numOk_all (numOk n) xs (by simpa [numD] using h)
      exact ⟨by simp only [fitD]; exact c1, by simp only [toPy, PyData.showable]; exact c2, by simp only [toPy, PyData.leavesShort]; exact c3, by simp only [toPy, PyData.shown]; exact ok_list _ c4⟩
    | _ => cases h
/-- repr of numbers' data: a text, equal to itself -/
theorem repr_ok {d : D} (h : numD 12 d = true) (hw : (toPy 12 d).weight ≤ 8000) : ∃ s, fRepr [d] = .leaf (.str s) ∧ cNe (.str s) (.str s) = .leaf false ∧ cEq (.str s) (.str s) = .leaf true := by
  obtain ⟨a, b⟩ := numOk 12 d h
  have hl := PyData.shown_le 1901 (by decide) _ b.ls
  refine ⟨(toPy 12 d).shown, ?_, ?_, ?_⟩
  · have e : fRepr [d] = if (fitD 12 d && (toPy 12 d).showable && decide ((toPy 12 d).shown.length ≤ sizeLine)) = true then .leaf (.str (toPy 12 d).shown) else .fail := by
      cases d <;> first | rfl | cases h
    rw [e]
    refine if_pos ?_
    rw [a, b.sh]
    simp only [Bool.and_self, Bool.true_and, decide_eq_true_eq]
    refine Nat.le_trans hl (Nat.le_trans (Nat.add_le_add_right (Nat.mul_le_mul_left _ hw) _) (by decide))
  · have hf : fitD 12 (.str (toPy 12 d).shown) = true := b.ok
    show (if (fitD 12 _ && fitD 12 _) = true then _ else _) = _
    rw [hf]
    simp [eqD]
  · have hf : fitD 12 (.str (toPy 12 d).shown) = true := b.ok
    show (if (fitD 12 _ && fitD 12 _) = true then _ else _) = _
    rw [hf]
    simp [eqD]
/-- a bound of the weight, by the datum's form alone -/
def wD : Nat → D → Nat
  | 0, _ => 0
  | n + 1, d => match d with
    | .int _ => 100
    | .str x => x.cps.size
    | .tup xs => (xs.map fun x => wD n x + 1).sum
    | .lst xs => (xs.map fun x => wD n x + 1).sum
    | _ => 0
theorem wD_all {n : Nat} (ih : ∀ d, numD n d = true → (toPy n d).weight ≤ wD n d) : ∀ xs : List D, xs.all (numD n) = true → PyData.weightAll (xs.map (toPy n)) ≤ (xs.map fun x => wD n x + 1).sum
  | [], _ => by simp [PyData.weightAll]
  | x :: xs, h => by
    rw [List.all_cons, Bool.and_eq_true] at h
    have := ih x h.1
    have := wD_all ih xs h.2
    rw [List.map_cons, List.map_cons, List.sum_cons]
    simp only [PyData.weightAll]
    omega
theorem wD_le : ∀ (n : Nat) (d : D), numD n d = true → (toPy n d).weight ≤ wD n d
  | 0, _, h => by cases h
  | n + 1, d, h => by
    cases d with
    | non => simp [toPy, PyData.weight]
    | bl b => simp [toPy, PyData.weight]
    | int i =>
      have h0 : i.natAbs < 2 ^ 100 := by simpa [numD] using h
      simp only [toPy, wD, PyData.weight]
      by_cases z : i = 0
      · subst z; simp
      · rw [if_neg (by simpa using z)]
        have := (Nat.log2_lt (show i.natAbs ≠ 0 by omega)).mpr h0
        omega
    | str x => simp [toPy, PyData.weight, wD]
    | tup xs => simp only [toPy, wD, PyData.weight]; exact wD_all (wD_le n) xs (by simpa [numD] using h)
    | lst xs => simp only [toPy, wD, PyData.weight]; exact wD_all (wD_le n) xs (by simpa [numD] using h)
    | _ => cases h
/-- a value of the law -/
structure Vd (d : D) : Prop where
  nm : numD 12 d = true
  wt : wD 12 d ≤ 8000
theorem repr_vd {d : D} (h : Vd d) : ∃ s, fRepr [d] = .leaf (.str s) ∧ cNe (.str s) (.str s) = .leaf false ∧ cEq (.str s) (.str s) = .leaf true := repr_ok h.nm (Nat.le_trans (wD_le 12 d h.nm) h.wt)
theorem cstr {x : Str} (h : PyData.strOk x = true) : cNe (.str x) (.str x) = .leaf false ∧ cEq (.str x) (.str x) = .leaf true := by
  have hf : fitD 12 (.str x) = true := h
  constructor
  · show (if (fitD 12 _ && fitD 12 _) = true then _ else _) = _
    rw [hf]
    simp [eqD]
  · show (if (fitD 12 _ && fitD 12 _) = true then _ else _) = _
    rw [hf]
    simp [eqD]
theorem repr_dct : ∃ s, fRepr [.dct] = .leaf (.str s) ∧ cNe (.str s) (.str s) = .leaf false ∧ cEq (.str s) (.str s) = .leaf true := ⟨"{}", rfl, (cstr (by decide +kernel)).1, (cstr (by decide +kernel)).2⟩
end R

set_option maxRecDepth 100000
set_option linter.all false
namespace Law
open R PySem L2
local macro_rules | `(tactic| walk_at "ev") => `(tactic| simp only [mDef, En.start, oSeq, oIf, oRet, oSet, oOwn, putOwn_z, putOwn_s, oPar, oNx, oFail, oEx, m2, m1, mA, aCons, aNil, mB, mC, mCh, mT, mNot, mAnd, mOr, mAndV, mOrV, mNotV, mIf, mTup, mLst, mList, asB_b, allS_leaf, wipe_n, wipe_c, wset_z, wset_s, tYesM, oAsg, gPut, gTp, gsCons, gsNil, mSeq, seq_l, seq_t, bind_leaf, bind_fail, lineOk_1, lineOk_2, lineOk_3, mPeek_z, mPeek_s, mVar_z, mVar_s, put_z, put_s, opAdd_i, opSub_i, opNeg_i, cLt_i, cLe_i, cGt_i, cGe_i, cEq_i, cNe_i, fAbs_i, fInt_i, fLen_t, fLen_l, ix0, ix1, Bool.false_eq_true, Bool.not_true, Bool.not_false,
  List.length_cons, List.length_nil, List.map_cons, List.map_nil, List.cons_append, List.nil_append, List.replicate, Nat.reduceAdd, Nat.reduceSub, Nat.zero_add, if_true, if_false, ↓reduceIte])
def whole : D → Bool
  | .int _ => true
  | _ => false
def isFrB : D → Bool
  | .tup [.int a, .int b] => decide (1 ≤ b) && decide (Int.gcd a b = 1)
  | _ => false
theorem isi_t {d : D} {t : String} (h : tyOf d = some t) (c : String) (hc : knownC.contains c = true) : fIsi [d, .ty c] = .leaf (.bl (instB t c)) := by
  show withO (tyOf d) _ = _
  unfold withO
  rw [h]
  exact if_pos hc
theorem ty_num {n : Nat} {d : D} (h : numD n d = true) : ∃ t, tyOf d = some t ∧ whole d = (instB t "int" && !instB t "bool") ∧ (d = d) := by
  cases n with
  | zero => cases h
  | succ n =>
    cases d with
    | non => exact ⟨_, rfl, by decide +kernel, rfl⟩
    | bl b => exact ⟨_, rfl, by show false = _; decide +kernel, rfl⟩
    | int i => exact ⟨_, rfl, by show true = _; decide +kernel, rfl⟩
    | str x => exact ⟨_, rfl, by show false = _; decide +kernel, rfl⟩
    | tup xs => exact ⟨_, rfl, by show false = _; decide +kernel, rfl⟩
    | lst xs => exact ⟨_, rfl, by show false = _; decide +kernel, rfl⟩
    | _ => cases h
theorem wh1 {n : Nat} {d : D} (h : numD n d = true) : f_is_integer [d] = .leaf (.bl (whole d)) := by
  obtain ⟨t, ht, hw, _⟩ := ty_num h
  have k1 := isi_t ht "int" (by decide +kernel)
  have k2 := isi_t ht "bool" (by decide +kernel)
  rw [hw]
  clear ht hw h
  unfold f_is_integer b_is_integer
  generalize instB t "int" = b1 at *
  generalize instB t "bool" = b2 at *
  generalize fIsi = fi at *
  walk_at "ev"
  rw [k1]
  walk_at "ev"
  cases b1
  · walk_at "ev"
    rfl
  · walk_at "ev"
    rw [k2]
    walk_at "ev"
    rfl
theorem bb100 {i : Int} (h : i.natAbs < 2 ^ 100) : i.natAbs < BB := Nat.lt_of_lt_of_le h (by unfold BB; exact Nat.pow_le_pow_right (by omega) (by omega))
theorem plain_loop {x y : Option Slot} {z : List (Option Slot)} : ∀ (f a b : Nat), b < f → oWhile (mC cNe (mPeek 3) (fun _ => .leaf (.int 0))) (oPar 2 3 (aCons (mVar 3) (aCons (m2 opMod (mA fInt (aCons (mPeek 2) aNil)) (mPeek 3)) aNil))) f (x :: y :: some ⟨false, .int a⟩ :: some ⟨false, .int b⟩ :: z) = .leaf (.nx (x :: y :: some ⟨false, .int (Nat.gcd a b : Nat)⟩ :: some ⟨false, .int 0⟩ :: z))
  | 0, a, b, h => by omega
  | f + 1, a, b, h => by
    unfold oWhile
    by_cases e : b = 0
    · subst e
      walk_at "ev"
      simp
    · have hb : (0 : Int) < b := by omega
      walk_at "ev"
      rw [show ((b : Int) == 0) = false from beq_eq_false_iff_ne.mpr (by omega)]
      walk_at "ev"
      rw [opMod_i hb]
      walk_at "ev"
      rw [show ((a : Int) % (b : Int)) = ((a % b : Nat) : Int) from rfl, plain_loop f b (a % b) (by have := Nat.mod_lt a (Nat.pos_of_ne_zero e); omega), show Nat.gcd a b = Nat.gcd b (a % b) by rw [Nat.gcd_comm a b, Nat.gcd_rec b a, Nat.gcd_comm]]
theorem bb_fuel {n : Nat} (h : n < BB) : n < FUEL := Nat.lt_trans h (by decide +kernel)
theorem law_plain_fq {t b : Int} (hb : 0 < b) (h1 : b.natAbs < BB) (h2 : t.natAbs < BB) : f_law_plain [.int t, .int b] = .leaf (fq t b) := by
  have hg := gcd_pos' (t := t) (b := b) (by omega)
  have hl := gcd_le' (t := t) (b := b) (by omega)
  have e1 : (if t < 0 then -t else t) = (t.natAbs : Int) := by split <;> omega
  have e2 : (if b < 0 then -b else b) = (b.natAbs : Int) := by split <;> omega
  have lp := plain_loop (x := some ⟨false, .int t⟩) (y := some ⟨false, .int b⟩) (z := [none]) FUEL t.natAbs b.natAbs (bb_fuel h1)
  rw [show ((t.natAbs.gcd b.natAbs : Nat) : Int) = (Int.gcd t b : Int) from rfl] at lp
  have d1 := opDiv_i (i := t) hg (by omega)
  have d2 := opDiv_i (i := b) hg (by omega)
  have m1 := opMul_i (i := 1) (j := t) (Nat.lt_of_lt_of_le (show (1 : Int).natAbs < 1000 by decide) (by have := ba_pos; have := ba_le; omega)) h2
  have m2 := opMul_i (i := 1) (j := b) (Nat.lt_of_lt_of_le (show (1 : Int).natAbs < 1000 by decide) (by have := ba_pos; have := ba_le; omega)) h1
  rw [Int.one_mul] at m1 m2
  have hq : fq t b = .tup [.int (t / (Int.gcd t b : Int)), .int (b / (Int.gcd t b : Int))] := rfl
  rw [hq]
  clear hq hl h1 h2
  unfold f_law_plain b_law_plain
  generalize FUEL = fu at *
  generalize (Int.gcd t b : Int) = g at *
  generalize oWhile = ow at *
  generalize opDiv = od at *
  generalize opMul = om at *
  walk_at "ev"
  rw [e1, e2]
  rw [lp]
  walk_at "ev"
  rw [decide_eq_true hb]
  walk_at "ev"
  rw [m1]
  walk_at "ev"
  rw [d1]
  walk_at "ev"
  rw [m2]
  walk_at "ev"
  rw [d2]
  walk_at "ev"
theorem fq_iff {a b : Int} (hb : 0 < b) : eqD 12 (fq a b) (.tup [.int a, .int b]) = decide (Int.gcd a b = 1) := by
  show ((a / (Int.gcd a b : Int) == a) && ((b / (Int.gcd a b : Int) == b) && true)) = _
  by_cases h : Int.gcd a b = 1
  · rw [h]; simp
  · rw [decide_eq_false h]
    have hg := gcd_pos' (t := a) (b := b) (by omega)
    have : (b / (Int.gcd a b : Int) == b) = false := by
      refine beq_eq_false_iff_ne.mpr fun e => h ?_
      have e1 : b / (Int.gcd a b : Int) * (Int.gcd a b : Int) = b := Int.ediv_mul_cancel (Int.gcd_dvd_right ..)
      rw [e] at e1
      have e3 : b * ((Int.gcd a b : Int) - 1) = 0 := by rw [Int.mul_sub, e1]; omega
      rcases Int.mul_eq_zero.mp e3 with z | z <;> omega
    rw [this]
    simp
theorem cEq_num {d e : D} (hd : fitD 12 d = true) (he : fitD 12 e = true) : cEq d e = .leaf (eqD 12 d e) := by
  unfold cEq
  rw [hd, he]
  rfl
theorem fr1_two {n : Nat} (a b : D) (ha : numD (n + 1) a = true) (hb : numD (n + 1) b = true) : f_is_fraction_of [.tup [a, b]] = .leaf (.bl (isFrB (.tup [a, b]))) := by
  have w1 := wh1 ha
  have w2 := wh1 hb
  have k1 : fIsi [.tup [a, b], .ty "tuple"] = .leaf (.bl true) := rfl
  have k2 : fLen [.tup [a, b]] = .leaf (.int 2) := rfl
  have k3 : cNe (.int 2) (.int 2) = .leaf false := rfl
  have i0 := ix0 a [b]
  have i1 := ix1 a b []
  by_cases wa : whole a = true
  · by_cases wb : whole b = true
    · cases a with
      | int a =>
        cases b with
        | int b =>
          have na : a.natAbs < 2 ^ 100 := by simpa [numD] using ha
          have nb : b.natAbs < 2 ^ 100 := by simpa [numD] using hb
          have e : isFrB (.tup [.int a, .int b]) = (decide (1 ≤ b) && decide (Int.gcd a b = 1)) := rfl
          have hge : cGe (.int b) (.int 1) = .leaf (decide (1 ≤ b)) := rfl
          rw [e]
          rw [wa] at w1
          rw [wb] at w2
          have hd : 1 ≤ b → f_divisor [.int (if a < 0 then -a else a), .int b] = .leaf (.int (Int.gcd a b)) := fun h => by
            rw [divisor_eq (by split <;> omega) (by omega) (bb100 nb), abs_gcd]
          have hq : cEq (.int (Int.gcd a b : Int)) (.int 1) = .leaf (decide (Int.gcd a b = 1)) := by
            rw [cEq_i]
            congr 1
            by_cases z : Int.gcd a b = 1
            · rw [z]; rfl
            · rw [decide_eq_false z]
              exact beq_eq_false_iff_ne.mpr (by omega)
          have ab1 := fAbs_i a
          unfold f_is_fraction_of b_is_fraction_of
          clear na nb ha hb wa wb e
          generalize decide (Int.gcd a b = 1) = dg at *
          generalize (Int.gcd a b : Int) = g at *
          generalize (if a < 0 then -a else a) = aa at *
          by_cases h : 1 ≤ b
          · have hd := hd h
            rw [decide_eq_true h] at hge ⊢
            generalize f_divisor = f1 at *
            generalize f_is_integer = f2 at *
            generalize fIsi = f3 at *
            generalize fLen = f4 at *
            generalize cNe = f5 at *
            generalize cGe = f6 at *
            generalize cEq = f7 at *
            generalize fAbs = f8 at *
            generalize opIx = f9 at *
            simp only [mDef, En.start, oSeq, oIf, oRet, oSet, oOwn, putOwn_z, putOwn_s, oPar, oNx, oFail, oEx, _root_.R.m2, _root_.R.m1, _root_.R.mA, aCons, aNil, _root_.R.mB, _root_.R.mC, mCh, _root_.R.mT, mNot, mAnd, mOr, mAndV, mOrV, mNotV, mIf, mTup, mLst, mList, asB_b, allS_leaf, wipe_n, wipe_c, wset_z, wset_s, tYesM, oAsg, gPut, gTp, gsCons, gsNil, mSeq, seq_l, seq_t, bind_leaf, bind_fail, lineOk_1, lineOk_2, lineOk_3, mPeek_z, mPeek_s, mVar_z, mVar_s, put_z, put_s, opAdd_i, opSub_i, opNeg_i, cLt_i, cLe_i, cGt_i, cGe_i, cEq_i, cNe_i, fAbs_i, fInt_i, fLen_t, fLen_l, ix0, ix1, Bool.false_eq_true, Bool.not_true, Bool.not_false, List.length_cons, List.length_nil, List.map_cons, List.map_nil, List.cons_append, List.nil_append, List.replicate, Nat.reduceAdd, Nat.reduceSub, Nat.zero_add, if_true, if_false, ↓reduceIte, k1, k2, k3, i0, w1, i1, w2, hge, ab1, hd, hq]
            rfl
          · clear hd
            rw [decide_eq_false h] at hge ⊢
            generalize f_divisor = f1 at *
            generalize f_is_integer = f2 at *
            generalize fIsi = f3 at *
            generalize fLen = f4 at *
            generalize cNe = f5 at *
            generalize cGe = f6 at *
            generalize cEq = f7 at *
            generalize opIx = f9 at *
            simp only [mDef, En.start, oSeq, oIf, oRet, oSet, oOwn, putOwn_z, putOwn_s, oPar, oNx, oFail, oEx, _root_.R.m2, _root_.R.m1, _root_.R.mA, aCons, aNil, _root_.R.mB, _root_.R.mC, mCh, _root_.R.mT, mNot, mAnd, mOr, mAndV, mOrV, mNotV, mIf, mTup, mLst, mList, asB_b, allS_leaf, wipe_n, wipe_c, wset_z, wset_s, tYesM, oAsg, gPut, gTp, gsCons, gsNil, mSeq, seq_l, seq_t, bind_leaf, bind_fail, lineOk_1, lineOk_2, lineOk_3, mPeek_z, mPeek_s, mVar_z, mVar_s, put_z, put_s, opAdd_i, opSub_i, opNeg_i, cLt_i, cLe_i, cGt_i, cGe_i, cEq_i, cNe_i, fAbs_i, fInt_i, fLen_t, fLen_l, ix0, ix1, Bool.false_eq_true, Bool.not_true, Bool.not_false, List.length_cons, List.length_nil, List.map_cons, List.map_nil, List.cons_append, List.nil_append, List.replicate, Nat.reduceAdd, Nat.reduceSub, Nat.zero_add, if_true, if_false, ↓reduceIte, k1, k2, k3, i0, w1, i1, w2, hge]
            rfl
        | _ => cases wb
      | _ => cases wa
    · have e : isFrB (.tup [a, b]) = false := by
        cases b <;> first | exact absurd rfl wb | (cases a <;> rfl)
      rw [e]
      rw [wa] at w1
      rw [Bool.eq_false_iff.mpr wb] at w2
      unfold f_is_fraction_of b_is_fraction_of
      clear ha hb wa wb e
      generalize f_is_integer = f2 at *
      generalize fIsi = f3 at *
      generalize fLen = f4 at *
      generalize cNe = f5 at *
      walk_at "ev"
      rw [k1]
      walk_at "ev"
      rw [k2]
      walk_at "ev"
      rw [k3]
      walk_at "ev"
      rw [w1]
      walk_at "ev"
      rw [w2]
      walk_at "ev"
  · have e : isFrB (.tup [a, b]) = false := by
      cases a <;> first | exact absurd rfl wa | rfl
    rw [e]
    rw [Bool.eq_false_iff.mpr wa] at w1
    unfold f_is_fraction_of b_is_fraction_of
    clear ha hb wa e
    generalize f_is_integer = f2 at *
    generalize fIsi = f3 at *
    generalize fLen = f4 at *
    generalize cNe = f5 at *
    walk_at "ev"
    rw [k1]
    walk_at "ev"
    rw [k2]
    walk_at "ev"
    rw [k3]
    walk_at "ev"
    rw [w1]
    walk_at "ev"
end Law

set_option maxRecDepth 100000
set_option linter.all false
namespace R
open PySem L2
open Tree (leaf fail)
end R
namespace Law
open R PySem L2
local macro_rules | `(tactic| walk_at "ev") => `(tactic| simp only [mDef, En.start, oSeq, oIf, oRet, oSet, oPar, oNx, oFail, oEx, m2, m1, mA, aCons, aNil, mB, mC, mCh, mT, mNot, mAnd, mOr, mAndV, mOrV, mNotV, mIf, mTup, mLst, mList, asB_b, allS_leaf, wipe_n, wipe_c, wset_z, wset_s, tYesM, oAsg, gPut, gTp, gsCons, gsNil, mSeq, seq_l, seq_t, bind_leaf, bind_fail, lineOk_1, lineOk_2, lineOk_3, mPeek_z, mPeek_s, mVar_z, mVar_s, put_z, put_s, opAdd_i, opSub_i, opNeg_i, cLt_i, cLe_i, cGt_i, cGe_i, cEq_i, cNe_i, fAbs_i, fInt_i, fLen_t, fLen_l, ix0, ix1, Bool.false_eq_true, Bool.not_true, Bool.not_false,
  List.length_cons, List.length_nil, List.map_cons, List.map_nil, List.cons_append, List.nil_append, List.replicate, Nat.reduceAdd, Nat.reduceSub, Nat.zero_add, if_true, if_false, ↓reduceIte])

theorem allS_mono {α : Type} {P Q : α → Prop} {t : Tree α} (h : AllS P t) (k : ∀ a, P a → Q a) : AllS Q t := ⟨Tree.all_mono k h.h⟩
theorem allS_fun {α β : Type} {P : α → Prop} {Q : β → Prop} {t : Tree α} {f : α → Tree β} (h : AllS P t) (k : ∀ a, P a → AllS Q (f a)) : AllS Q (t.bind f) := by
  rw [allS_bind]
  exact allS_mono h k
/-- a comprehension whose item draws -/
theorem lcS {β : Type} {P : D → Prop} {g : D → En → Tree En} {mt : En → Tree Bool} {me : En → Tree D} {E : En} {dx : β → D} : ∀ L : List β, (∀ x ∈ L, ∃ E', g (dx x) E = .leaf E' ∧ mt E' = .leaf true ∧ AllS P (me E')) →
    AllS (fun ys => ys.length = L.length ∧ ∀ y ∈ ys, P y) (lcLoop g mt me E (L.map dx))
  | [], _ => by
    show AllS _ (Tree.leaf [])
    rw [allS_leaf]
    exact ⟨rfl, fun y hy => nomatch hy⟩
  | x :: L, h => by
    obtain ⟨E', h1, h2, h3⟩ := h x List.mem_cons_self
    have ih := lcS (P := P) L fun y hy => h y (List.mem_cons_of_mem _ hy)
    rw [List.map_cons]
    unfold lcLoop
    rw [h1, bind_leaf, h2, bind_leaf, if_pos rfl]
    refine allS_fun h3 fun y hy => allS_fun ih fun ys hys => ?_
    rw [allS_leaf]
    refine ⟨by rw [List.length_cons, List.length_cons, hys.1], fun z hz => ?_⟩
    rcases List.mem_cons.mp hz with e | e
    · exact e ▸ hy
    · exact hys.2 z e
theorem mLcS {β : Type} {P : D → Prop} {mi : En → Tree (List D)} {vs : List Nat} {g : D → En → Tree En} {mt : En → Tree Bool} {me : En → Tree D} {E : En} {dx : β → D} {L : List β} (hi : mi E = .leaf (L.map dx)) (hl : L.length ≤ 100)
    (h : ∀ x ∈ L, ∃ E', g (dx x) (wipeE E vs) = .leaf E' ∧ mt E' = .leaf true ∧ AllS P (me E')) : AllS (fun ys => ys.length = L.length ∧ ∀ y ∈ ys, P y) (mLc mi vs g mt me E) := by
  unfold mLc
  rw [hi, bind_leaf, lineOk_s _ _ (by rw [List.length_map]; exact hl)]
  exact lcS L h
/-- a pick -/
theorem pickS {ds : List D} {P : D → Prop} (h0 : 0 < ds.length) (h1 : ds.length ≤ 100) (h : ∀ d ∈ ds, P d) : AllS P (f_law_pick [.pot, .lst ds]) := by
  have hd := drS ds.length (by omega) (by omega)
  have hl := fLen_l ds
  have hx : ∀ i : Int, 0 ≤ i → i < ds.length → ∃ d, d ∈ ds ∧ opIx (.lst ds) (.int i) = .leaf d := by
    intro i i0 i1
    obtain ⟨k, rfl⟩ := Int.eq_ofNat_of_zero_le i0
    have hk : k < ds.length := by omega
    refine ⟨ds[k], List.getElem_mem hk, ?_⟩
    have e : atI ds (k : Int) = some ds[k] := by
      unfold atI ixN
      rw [if_pos (by omega), if_pos (by omega)]
      simp [hk]
    show ixO _ _ _ = _
    unfold ixO
    rw [e]
  clear h0 h1
  unfold f_law_pick b_law_pick
  generalize fLen = fl at *
  generalize opIx = oi at *
  generalize (ds.length : Int) = n at *
  walk_at "ev"
  rw [hl]
  walk_at "ev"
  repeat rw [allS_bind]
  refine allS_go hd ?_
  clear hd
  intro i i0 i1
  obtain ⟨d, hd, e⟩ := hx i i0 i1
  walk_at "ev"
  rw [e]
  walk_at "ev"
  exact h d hd
end Law

set_option maxRecDepth 100000
set_option linter.all false
namespace Law
open R PySem L2
local macro_rules | `(tactic| walk_at "ev") => `(tactic| simp only [mDef, En.start, oSeq, oIf, oRet, oSet, oOwn, putOwn_z, putOwn_s, oPar, oNx, oFail, oEx, m2, m1, mA, aCons, aNil, mB, mC, mCh, mT, mNot, mAnd, mOr, mAndV, mOrV, mNotV, mIf, mTup, mLst, mList, asB_b, allS_leaf, wipe_n, wipe_c, wset_z, wset_s, tYesM, oAsg, gPut, gTp, gsCons, gsNil, mSeq, seq_l, seq_t, bind_leaf, bind_fail, lineOk_1, lineOk_2, lineOk_3, mPeek_z, mPeek_s, mVar_z, mVar_s, put_z, put_s, opAdd_i, opSub_i, opNeg_i, cLt_i, cLe_i, cGt_i, cGe_i, cEq_i, cNe_i, fAbs_i, fInt_i, fLen_t, fLen_l, ix0, ix1, Bool.false_eq_true, Bool.not_true, Bool.not_false,
  List.length_cons, List.length_nil, List.map_cons, List.map_nil, List.cons_append, List.nil_append, List.replicate, Nat.reduceAdd, Nat.reduceSub, Nat.zero_add, if_true, if_false, ↓reduceIte])
theorem nt_num {n : Nat} {d : D} (h : numD n d = true) : (∃ xs, d = .tup xs) ∨ (fIsi [d, .ty "tuple"] = .leaf (.bl false) ∧ isFrB d = false) := by
  cases n with
  | zero => cases h
  | succ n =>
    cases d with
    | tup xs => exact .inl ⟨xs, rfl⟩
    | non => exact .inr ⟨rfl, rfl⟩
    | bl b => exact .inr ⟨rfl, rfl⟩
    | int i => exact .inr ⟨rfl, rfl⟩
    | str x => exact .inr ⟨rfl, rfl⟩
    | lst xs => exact .inr ⟨rfl, rfl⟩
    | _ => cases h
theorem isFr_q {n : Nat} {x : D} (h : numD (n + 2) x = true) (hx : isFrB x = true) : ∃ q, x = fr q ∧ Sz 100 q := by
  unfold isFrB at hx
  split at hx
  · rename_i a b
    simp only [Bool.and_eq_true, decide_eq_true_eq] at hx
    have hh : ([.int a, .int b] : List D).all (numD (n + 1)) = true := by simpa [numD] using h
    simp only [List.all_cons, List.all_nil, Bool.and_true, Bool.and_eq_true] at hh
    have na : a.natAbs < 2 ^ 100 := by simpa [numD] using hh.1
    have nb : b.natAbs < 2 ^ 100 := by simpa [numD] using hh.2
    refine ⟨(a : Rat) / (b : Rat), ?_, sz_div (by omega) na nb⟩
    rw [← fq_fr (by omega), fq_of hx.2]
  · cases hx
theorem isFr_fr (q : Rat) : isFrB (fr q) = true := by
  unfold fr isFrB
  simp only [Bool.and_eq_true, decide_eq_true_eq]
  exact ⟨by have := den_pos' q; omega, by have := q.reduced; exact this⟩
def nnD : D → Bool
  | .tup (.int a :: _) => decide (0 ≤ a)
  | _ => false
theorem nn_fr (q : Rat) : nnD (fr q) = decide (0 ≤ q.num) := rfl
theorem lots_q {n : Nat} : ∀ xs : List D, xs.all (numD (n + 2)) = true → xs.all isFrB = true → ∃ Q : List Rat, xs = Q.map fr ∧ ∀ q ∈ Q, Sz 100 q
  | [], _, _ => ⟨[], rfl, fun _ h => nomatch h⟩
  | x :: xs, h, hx => by
    rw [List.all_cons, Bool.and_eq_true] at h hx
    obtain ⟨q, rfl, hq⟩ := isFr_q h.1 hx.1
    obtain ⟨Q, rfl, hQ⟩ := lots_q xs h.2 hx.2
    exact ⟨q :: Q, rfl, fun p hp => (List.mem_cons.mp hp).elim (fun e => e ▸ hq) (hQ p)⟩
theorem law_plus_fr {p q : Rat} (hp : Sz 4000 p) (hq : Sz 4000 q) : f_law_plus [fr p, fr q] = .leaf (fr (p + q)) := by
  obtain ⟨a1, a2⟩ := sz_ba hp (by omega)
  obtain ⟨b1, b2⟩ := sz_ba hq (by omega)
  have hL := ba_le
  have h2 := nmul a2 b2
  have h3 := nmul a1 b2
  have h4 := nmul b1 a2
  have hB := bab
  have k := law_plain_fq (t := p.num * q.den + q.num * p.den) (b := p.den * q.den) (Int.mul_pos (den_pos' p) (den_pos' q)) (by omega) (by omega)
  rw [fq_fr (Int.mul_pos (den_pos' p) (den_pos' q)), frac_add] at k
  have o1 := opMul_i (i := p.num) (j := q.den) (by omega) (by omega)
  have o2 := opMul_i (i := q.num) (j := p.den) (by omega) (by omega)
  have o3 := opMul_i (i := p.den) (j := q.den) (by omega) (by omega)
  generalize hz : fr (p + q) = z at *
  clear hz h2 a1 a2 b1 b2 hp hq
  unfold fr f_law_plus b_law_plus
  generalize (p.den : Int) = pd at *
  generalize (q.den : Int) = qd at *
  generalize f_law_plain = ff at *
  generalize opMul = om at *
  simp only [mDef, En.start, oSeq, oIf, oRet, oSet, oOwn, putOwn_z, putOwn_s, oPar, oNx, oFail, oEx, _root_.R.m2, _root_.R.m1, _root_.R.mA, aCons, aNil, _root_.R.mB, _root_.R.mC, mCh, _root_.R.mT, mNot, mAnd, mOr, mAndV, mOrV, mNotV, mIf, mTup, mLst, mList, asB_b, allS_leaf, wipe_n, wipe_c, wset_z, wset_s, tYesM, oAsg, gPut, gTp, gsCons, gsNil, mSeq, seq_l, seq_t, bind_leaf, bind_fail, lineOk_1, lineOk_2, lineOk_3, mPeek_z, mPeek_s, mVar_z, mVar_s, put_z, put_s, opAdd_i, opSub_i, opNeg_i, cLt_i, cLe_i, cGt_i, cGe_i, cEq_i, cNe_i, fAbs_i, fInt_i, fLen_t, fLen_l, ix0, ix1, Bool.false_eq_true, Bool.not_true, Bool.not_false, List.length_cons, List.length_nil, List.map_cons, List.map_nil, List.cons_append, List.nil_append, List.replicate, Nat.reduceAdd, Nat.reduceSub, Nat.zero_add, if_true, if_false, ↓reduceIte, o1, o2, o3, k]
theorem law_total_loop {p : Option Slot} {n : Nat} : ∀ (L : List Rat) (a : Rat) (x : Option Slot) (m : Nat), Sz m a → (∀ q ∈ L, Sz n q) → m + L.length * (n + 1) ≤ 4000 → n ≤ 4000 →
    ∃ y, oLoop (gPut 2) (oSet 1 (mA f_law_plus (aCons (mVar 1) (aCons (mVar 2) aNil)))) (L.map fr) [p, some ⟨false, fr a⟩, x] = .leaf (.nx [p, some ⟨false, fr (a + L.sum)⟩, y])
  | [], a, x, m, _, _, _, _ => ⟨x, by rw [show a + ([] : List Rat).sum = a by simp; grind]; rfl⟩
  | q :: L, a, x, m, ha, hL, hm, hn => by
    have hm : m + (L.length + 1) * (n + 1) ≤ 4000 := hm
    have e : (L.length + 1) * (n + 1) = L.length * (n + 1) + (n + 1) := Nat.succ_mul _ _
    have hq := hL q List.mem_cons_self
    obtain ⟨y, ih⟩ := law_total_loop (p := p) (n := n) L (a + q) (some ⟨false, fr q⟩) (m + n + 1) (sz_add ha hq) (fun q hq => hL q (List.mem_cons_of_mem _ hq)) (by omega) hn
    refine ⟨y, ?_⟩
    have k := law_plus_fr (ha.mono (m := 4000) (by omega)) (hq.mono (m := 4000) hn)
    rw [List.map_cons]
    unfold oLoop
    generalize f_law_plus = fa at *
    walk_at "ev"
    rw [k]
    walk_at "ev"
    rw [ih, List.sum_cons, Rat.add_assoc]
theorem law_total_t {n : Nat} (L : List Rat) (hL : ∀ q ∈ L, Sz n q) (h : 1 + L.length * (n + 1) ≤ 4000) (hn : n ≤ 4000) : f_law_total [.tup (L.map fr)] = .leaf (fr L.sum) := by
  obtain ⟨y, hl⟩ := law_total_loop (p := some ⟨false, .tup (L.map fr)⟩) L 0 none 1 (sz_zero 1 (by omega)) hL h hn
  rw [show (0 : Rat) + L.sum = L.sum by grind, fr_zero] at hl
  unfold f_law_total b_law_total
  generalize f_law_plus = fa at *
  have hs : mSeq (mVar 0) [some ⟨false, .tup (L.map fr)⟩, some ⟨false, .tup [.int 0, .int 1]⟩, none] = .leaf (L.map fr) := by walk_at "ev"
  have hf := for_at hs hl
  generalize oFor = ff at *
  generalize L.map fr = z at *
  simp only [mDef, En.start, oSeq, oIf, oRet, oSet, oOwn, putOwn_z, putOwn_s, oPar, oNx, oFail, oEx, _root_.R.m2, _root_.R.m1, _root_.R.mA, aCons, aNil, _root_.R.mB, _root_.R.mC, mCh, _root_.R.mT, mNot, mAnd, mOr, mAndV, mOrV, mNotV, mIf, mTup, mLst, mList, asB_b, allS_leaf, wipe_n, wipe_c, wset_z, wset_s, tYesM, oAsg, gPut, gTp, gsCons, gsNil, mSeq, seq_l, seq_t, bind_leaf, bind_fail, lineOk_1, lineOk_2, lineOk_3, mPeek_z, mPeek_s, mVar_z, mVar_s, put_z, put_s, opAdd_i, opSub_i, opNeg_i, cLt_i, cLe_i, cGt_i, cGe_i, cEq_i, cNe_i, fAbs_i, fInt_i, fLen_t, fLen_l, ix0, ix1, Bool.false_eq_true, Bool.not_true, Bool.not_false, List.length_cons, List.length_nil, List.map_cons, List.map_nil, List.cons_append, List.nil_append, List.replicate, Nat.reduceAdd, Nat.reduceSub, Nat.zero_add, if_true, if_false, ↓reduceIte, hf]
theorem bls_bl {β : Type} (t : β → Bool) : ∀ L : List β, blsD (L.map fun x => D.bl (t x)) = some (L.map t)
  | [] => rfl
  | x :: L => by rw [List.map_cons, List.map_cons]; unfold blsD; rw [bls_bl t L]; rfl
theorem all_bl {β : Type} (t : β → Bool) (L : List β) : fAll [.lst (L.map fun x => D.bl (t x))] = .leaf (.bl (L.all t)) := by
  show withO _ _ = _
  unfold withO
  rw [bls_bl]
  show Tree.leaf (D.bl ((L.map t).all fun b => b)) = _
  rw [List.all_map]
  rfl
end Law

set_option maxRecDepth 100000
set_option linter.all false
namespace Law
open R PySem L2
local macro_rules | `(tactic| walk_at "ev") => `(tactic| simp only [mDef, En.start, oSeq, oIf, oRet, oSet, oOwn, putOwn_z, putOwn_s, oPar, oNx, oFail, oEx, m2, m1, mA, aCons, aNil, mB, mC, mCh, mT, mNot, mAnd, mOr, mAndV, mOrV, mNotV, mIf, mTup, mLst, mList, asB_b, allS_leaf, wipe_n, wipe_c, wset_z, wset_s, tYesM, oAsg, gPut, gTp, gsCons, gsNil, mSeq, seq_l, seq_t, bind_leaf, bind_fail, lineOk_1, lineOk_2, lineOk_3, mPeek_z, mPeek_s, mVar_z, mVar_s, put_z, put_s, opAdd_i, opSub_i, opNeg_i, cLt_i, cLe_i, cGt_i, cGe_i, cEq_i, cNe_i, fAbs_i, fInt_i, fLen_t, fLen_l, ix0, ix1, Bool.false_eq_true, Bool.not_true, Bool.not_false,
  List.length_cons, List.length_nil, List.map_cons, List.map_nil, List.cons_append, List.nil_append, List.replicate, Nat.reduceAdd, Nat.reduceSub, Nat.zero_add, if_true, if_false, ↓reduceIte])
theorem pow_i {i j : Int} (h : powB i j = true) : opPow (.int i) (.int j) = .leaf (.int (i ^ j.toNat)) := if_pos h
theorem law_frac_S {m : Int} (m1 : 1 ≤ m) (m2 : m ≤ 10 ^ 6) : AllS (fun d => ∃ a b : Int, d = .tup [.int a, .int b] ∧ a.natAbs ≤ 10 ^ 6 ∧ 1 ≤ b ∧ b ≤ 10 ^ 6) (f_law_fraction [.pot, .int m]) := by
  have d1 := drS (2 * m + 1) (by omega) (by omega)
  have d2 := drS m (by omega) (by omega)
  have o1 := opMul_i (i := 2) (j := m) (bb100 (by decide)) (bb100 (by omega))
  have pl : ∀ i j : Int, 0 ≤ i → i < 2 * m + 1 → 0 ≤ j → j < m → ∃ a b : Int, f_law_plain [.int (i - m), .int (1 + j)] = .leaf (.tup [.int a, .int b]) ∧ a.natAbs ≤ 10 ^ 6 ∧ 1 ≤ b ∧ b ≤ 10 ^ 6 := by
    intro i j i0 i1 j0 j1
    obtain ⟨p, q, g, e, h1, h2, h3, h4, h5, h6, h7⟩ := fq_parts (i - m) (1 + j) (by omega)
    refine ⟨p, q, ?_, by omega, by omega, by omega⟩
    rw [law_plain_fq (by omega) (bb100 (by omega)) (bb100 (by omega)), e]
  unfold f_law_fraction b_law_fraction
  generalize f_law_draw = f1 at *
  generalize f_law_plain = f2 at *
  generalize opMul = om at *
  simp only [mDef, En.start, oSeq, oIf, oRet, oSet, oOwn, putOwn_z, putOwn_s, oPar, oNx, oFail, oEx, _root_.R.m2, _root_.R.m1, _root_.R.mA, aCons, aNil, _root_.R.mB, _root_.R.mC, mCh, _root_.R.mT, mNot, mAnd, mOr, mAndV, mOrV, mNotV, mIf, mTup, mLst, mList, asB_b, allS_leaf, wipe_n, wipe_c, wset_z, wset_s, tYesM, oAsg, gPut, gTp, gsCons, gsNil, mSeq, seq_l, seq_t, bind_leaf, bind_fail, lineOk_1, lineOk_2, lineOk_3, mPeek_z, mPeek_s, mVar_z, mVar_s, put_z, put_s, opAdd_i, opSub_i, opNeg_i, cLt_i, cLe_i, cGt_i, cGe_i, cEq_i, cNe_i, fAbs_i, fInt_i, fLen_t, fLen_l, ix0, ix1, Bool.false_eq_true, Bool.not_true, Bool.not_false, List.length_cons, List.length_nil, List.map_cons, List.map_nil, List.cons_append, List.nil_append, List.replicate, Nat.reduceAdd, Nat.reduceSub, Nat.zero_add, if_true, if_false, ↓reduceIte, o1]
  repeat rw [allS_bind]
  refine allS_go d1 ?_
  intro i i0 i1
  try walk_at "ev"
  repeat rw [allS_bind]
  refine allS_go d2 ?_
  intro j j0 j1
  obtain ⟨a, b, e, h⟩ := pl i j i0 i1 j0 j1
  simp only [mDef, En.start, oSeq, oIf, oRet, oSet, oOwn, putOwn_z, putOwn_s, oPar, oNx, oFail, oEx, _root_.R.m2, _root_.R.m1, _root_.R.mA, aCons, aNil, _root_.R.mB, _root_.R.mC, mCh, _root_.R.mT, mNot, mAnd, mOr, mAndV, mOrV, mNotV, mIf, mTup, mLst, mList, asB_b, allS_leaf, wipe_n, wipe_c, wset_z, wset_s, tYesM, oAsg, gPut, gTp, gsCons, gsNil, mSeq, seq_l, seq_t, bind_leaf, bind_fail, lineOk_1, lineOk_2, lineOk_3, mPeek_z, mPeek_s, mVar_z, mVar_s, put_z, put_s, opAdd_i, opSub_i, opNeg_i, cLt_i, cLe_i, cGt_i, cGe_i, cEq_i, cNe_i, fAbs_i, fInt_i, fLen_t, fLen_l, ix0, ix1, Bool.false_eq_true, Bool.not_true, Bool.not_false, List.length_cons, List.length_nil, List.map_cons, List.map_nil, List.cons_append, List.nil_append, List.replicate, Nat.reduceAdd, Nat.reduceSub, Nat.zero_add, if_true, if_false, ↓reduceIte, e]
  exact ⟨a, b, rfl, h⟩
def Val (d : D) : Prop := d = .dct ∨ Vd d
theorem val_repr {d : D} (h : Val d) : ∃ s, fRepr [d] = .leaf (.str s) ∧ cNe (.str s) (.str s) = .leaf false := by
  rcases h with rfl | h
  · obtain ⟨s, a, b, _⟩ := repr_dct
    exact ⟨s, a, b⟩
  · obtain ⟨s, a, b, _⟩ := repr_vd h
    exact ⟨s, a, b⟩
theorem two_repr (b : Bool) : ∃ s, fRepr [.lst [.bl b, .bl b]] = .leaf (.str s) ∧ cNe (.str s) (.str s) = .leaf false := by
  obtain ⟨s, a, b, _⟩ := repr_vd (d := .lst [.bl b, .bl b]) ⟨by cases b <;> rfl, by show (2 : Nat) ≤ 8000; decide⟩
  exact ⟨s, a, b⟩
theorem perm1 (a : D) : permD [0] [a] = [a] := rfl
theorem loop_at {bo : En → Tree Out} (hb : ∀ {d : D}, Val d → ∀ {p x y : Option Slot} {E : List (Option Slot)}, ∃ x' y', bo (p :: some ⟨false, d⟩ :: x :: y :: E) = .leaf (.nx (p :: some ⟨false, d⟩ :: x' :: y' :: E))) {p : Option Slot} {E : List (Option Slot)} :
    ∀ (L : List D) (v x y : Option Slot), (∀ d ∈ L, Val d) → ∃ v' x' y', oLoop (gPut 1) bo L (p :: v :: x :: y :: E) = .leaf (.nx (p :: v' :: x' :: y' :: E))
  | [], v, x, y, _ => ⟨v, x, y, rfl⟩
  | d :: L, v, x, y, h => by
    obtain ⟨x1, y1, e1⟩ := hb (h d List.mem_cons_self) (p := p) (x := x) (y := y) (E := E)
    obtain ⟨v', x', y', e2⟩ := loop_at hb L (some ⟨false, d⟩) x1 y1 (fun z hz => h z (List.mem_cons_of_mem _ hz)) (p := p) (E := E)
    refine ⟨v', x', y', ?_⟩
    unfold oLoop
    walk_at "ev"
    rw [e1]
    walk_at "ev"
    exact e2
end Law

set_option maxRecDepth 100000
set_option linter.all false
namespace Law
open R PySem L2
local macro_rules | `(tactic| walk_at "ev") => `(tactic| simp only [mDef, En.start, oSeq, oIf, oRet, oSet, oOwn, putOwn_z, putOwn_s, oPar, oNx, oFail, oEx, m2, m1, mA, aCons, aNil, mB, mC, mCh, mT, mNot, mAnd, mOr, mAndV, mOrV, mNotV, mIf, mTup, mLst, mList, asB_b, allS_leaf, wipe_n, wipe_c, wset_z, wset_s, tYesM, oAsg, gPut, gTp, gsCons, gsNil, mSeq, seq_l, seq_t, bind_leaf, bind_fail, lineOk_1, lineOk_2, lineOk_3, mPeek_z, mPeek_s, mVar_z, mVar_s, put_z, put_s, opAdd_i, opSub_i, opNeg_i, cLt_i, cLe_i, cGt_i, cGe_i, cEq_i, cNe_i, fAbs_i, fInt_i, fLen_t, fLen_l, ix0, ix1, Bool.false_eq_true, Bool.not_true, Bool.not_false,
  List.length_cons, List.length_nil, List.map_cons, List.map_nil, List.cons_append, List.nil_append, List.replicate, Nat.reduceAdd, Nat.reduceSub, Nat.zero_add, if_true, if_false, ↓reduceIte])

def iL (T : List Nat) : List D := T.map fun t : Nat => .int (t : Int)
def frT (S t : Nat) : Rat := ((t : Int) : Rat) / ((S : Int) : Rat)
theorem iL_of {b : Nat} : ∀ ys : List D, (∀ y ∈ ys, ∃ k : Nat, k ≤ b ∧ y = .int (k : Int)) → ∃ T : List Nat, ys = iL T ∧ ∀ t ∈ T, t ≤ b
  | [], _ => ⟨[], rfl, fun _ h => nomatch h⟩
  | y :: ys, h => by
    obtain ⟨k, hk, rfl⟩ := h y List.mem_cons_self
    obtain ⟨T, rfl, hT⟩ := iL_of ys fun z hz => h z (List.mem_cons_of_mem _ hz)
    exact ⟨k :: T, rfl, fun t ht => (List.mem_cons.mp ht).elim (fun e => e ▸ hk) (hT t)⟩
theorem iL_sum : ∀ T : List Nat, intsD (iL T) = some (T.map fun t : Nat => (t : Int))
  | [] => rfl
  | t :: T => by
    show (intsD (iL T)).map _ = _
    rw [iL_sum T]; rfl
theorem cast_sum : ∀ T : List Nat, (T.map fun t : Nat => (t : Int)).sum = (T.sum : Int)
  | [] => rfl
  | t :: T => by rw [List.map_cons, List.sum_cons, List.sum_cons, cast_sum T]; omega
theorem fSum_iL (T : List Nat) : fSum [.lst (iL T)] = .leaf (.int (T.sum : Int)) := by
  show withO _ _ = _
  rw [iL_sum]
  show Tree.leaf (D.int (T.map fun t : Nat => (t : Int)).sum) = _
  rw [cast_sum]
theorem sum_le3 {b : Nat} : ∀ T : List Nat, (∀ t ∈ T, t ≤ b) → T.sum ≤ T.length * b
  | [], _ => by simp
  | t :: T, h => by
    have := sum_le3 T fun z hz => h z (List.mem_cons_of_mem _ hz)
    have := h t List.mem_cons_self
    rw [List.sum_cons, List.length_cons, Nat.succ_mul]
    omega
theorem mem_le_sum : ∀ {T : List Nat} {t : Nat}, t ∈ T → t ≤ T.sum
  | a :: T, t, h => by
    rw [List.sum_cons]
    rcases List.mem_cons.mp h with e | e
    · omega
    · have := mem_le_sum e; omega
theorem store_S {P : Out → Prop} {mi mv : En → Tree D} {a b c d : Option Slot} {ds : List D} {v : D} (hv : mv [a, b, some ⟨true, .lst ds⟩, c, d] = .leaf v)
    (hi : AllS (fun z => ∃ i : Int, 0 ≤ i ∧ i < ds.length ∧ z = .int i) (mi [a, b, some ⟨true, .lst ds⟩, c, d])) (k : ∀ j : Nat, j < ds.length → P (.nx [a, b, some ⟨true, .lst (ds.set j v)⟩, c, d])) : AllS P (oStore 2 mi mv [a, b, some ⟨true, .lst ds⟩, c, d]) := by
  unfold oStore
  rw [hv, bind_leaf]
  show AllS P ((mi [a, b, some ⟨true, .lst ds⟩, c, d]).bind _)
  refine allS_fun hi fun z hz => ?_
  obtain ⟨i, h0, h1, rfl⟩ := hz
  obtain ⟨j, rfl⟩ := Int.eq_ofNat_of_zero_le h0
  have e : ixN ds.length (j : Int) = some j := by
    unfold ixN
    rw [if_pos (by omega), if_pos (by omega)]
    rfl
  show AllS P (match ixN ds.length (j : Int) with
    | some j => .leaf (.nx (En.putOwn [a, b, some ⟨true, .lst ds⟩, c, d] 2 (.lst (ds.set j v))))
    | none => .fail)
  rw [e]
  show AllS P (.leaf _)
  rw [allS_leaf]
  exact k j (by omega)
theorem iL_set (T : List Nat) (j v : Nat) : (iL T).set j (.int (v : Int)) = iL (T.set j v) := by
  unfold iL
  rw [List.map_set]
theorem iL_len (T : List Nat) : (iL T).length = T.length := by unfold iL; rw [List.length_map]
def LotT (m : Nat) (d : D) : Prop := ∃ T : List Nat, T.length = m ∧ (∀ t ∈ T, t ≤ 3) ∧ 0 < T.sum ∧ d = lotD (T.map (frT T.sum))
end Law

set_option maxRecDepth 100000
set_option linter.all false
namespace Law
open R PySem L2
local macro_rules | `(tactic| walk_at "ev") => `(tactic| simp only [mDef, En.start, oSeq, oIf, oRet, oSet, oOwn, putOwn_z, putOwn_s, oPar, oNx, oFail, oEx, m2, m1, mA, aCons, aNil, mB, mC, mCh, mT, mNot, mAnd, mOr, mAndV, mOrV, mNotV, mIf, mTup, mLst, mList, asB_b, allS_leaf, wipe_n, wipe_c, wset_z, wset_s, tYesM, oAsg, gPut, gTp, gsCons, gsNil, mSeq, seq_l, seq_t, bind_leaf, bind_fail, lineOk_1, lineOk_2, lineOk_3, mPeek_z, mPeek_s, mVar_z, mVar_s, put_z, put_s, opAdd_i, opSub_i, opNeg_i, cLt_i, cLe_i, cGt_i, cGe_i, cEq_i, cNe_i, fAbs_i, fInt_i, fLen_t, fLen_l, ix0, ix1, Bool.false_eq_true, Bool.not_true, Bool.not_false,
  List.length_cons, List.length_nil, List.map_cons, List.map_nil, List.cons_append, List.nil_append, List.replicate, Nat.reduceAdd, Nat.reduceSub, Nat.zero_add, if_true, if_false, ↓reduceIte])
theorem atl {ds : List D} {k : Nat} (hk : k < ds.length) : opIx (.lst ds) (.int (k : Int)) = .leaf ds[k] := by
  have e : atI ds (k : Int) = some ds[k] := by
    unfold atI ixN
    rw [if_pos (by omega), if_pos (by omega)]
    simp [hk]
  show ixO _ _ _ = _
  unfold ixO
  rw [e]
theorem store7 {mi mv : En → Tree D} {a b c d e f : Option Slot} {ds : List D} {v : D} {j : Nat} (hv : mv [a, b, c, some ⟨true, .lst ds⟩, d, e, f] = .leaf v) (hi : mi [a, b, c, some ⟨true, .lst ds⟩, d, e, f] = .leaf (.int (j : Int))) (hj : j < ds.length) :
    oStore 3 mi mv [a, b, c, some ⟨true, .lst ds⟩, d, e, f] = .leaf (.nx [a, b, c, some ⟨true, .lst (ds.set j v)⟩, d, e, f]) := by
  unfold oStore
  rw [hv, bind_leaf]
  show (mi [a, b, c, some ⟨true, .lst ds⟩, d, e, f]).bind _ = _
  rw [hi, bind_leaf]
  have e0 : ixN ds.length (j : Int) = some j := by
    unfold ixN
    rw [if_pos (by omega), if_pos (by omega)]
    rfl
  show (match ixN ds.length (j : Int) with
    | some j => Tree.leaf (Out.nx (En.putOwn [a, b, c, some ⟨true, .lst ds⟩, d, e, f] 3 (.lst (ds.set j v))))
    | none => .fail) = _
  rw [e0]
  rfl
structure LotL (m w : Nat) (d : D) : Prop where
  ex : ∃ T : List Nat, d = lotD (T.map (frT T.sum)) ∧ T.length = m ∧ 0 < T.sum ∧ T.sum ≤ m * w + 1 ∧ T.sum ≤ 8001
theorem frT_sz {S t : Nat} (h0 : 0 < S) (h1 : S ≤ 8001) (h2 : t ≤ S) : Sz 13 (frT S t) := by
  unfold frT
  have e : (2 : Nat) ^ 13 = 8192 := by decide
  exact sz_div (by omega) (by rw [e]; omega) (by rw [e]; omega)
theorem plain_fr {S t : Nat} (h0 : 0 < S) (h1 : S ≤ 8001) (h2 : t ≤ S) : f_law_plain [.int (t : Int), .int (S : Int)] = .leaf (fr (frT S t)) := by
  have e : (2 : Nat) ^ 100 = 1267650600228229401496703205376 := by decide
  rw [law_plain_fq (by omega) (bb100 (by rw [e]; omega)) (bb100 (by rw [e]; omega)), fq_fr (by omega)]
  rfl
theorem tops7 {T : List Nat} (hl : T.length ≤ 8) (hp : 0 < T.sum) (hs : T.sum ≤ 8001) {p m x y z : Option Slot} : mLc (mSeq (mPeek 3)) [6] (gPut 6) tYesM (mA f_law_plain (aCons (mVar 6) (aCons (mA fSum (aCons (mPeek 3) aNil)) aNil))) [p, m, x, some ⟨true, .lst (iL T)⟩, y, z, none] = .leaf (T.map fun t : Nat => fr (frT T.sum t)) := by
  refine mLc_at (L := T) (dx := fun t : Nat => .int (t : Int)) (by walk_at "ev"; rfl) (by omega) fun t ht => ⟨[p, m, x, some ⟨true, .lst (iL T)⟩, y, z, some ⟨false, .int (t : Int)⟩], by walk_at "ev", rfl, ?_⟩
  have k1 := fSum_iL T
  have k2 := plain_fr hp hs (mem_le_sum ht)
  generalize fr (frT T.sum t) = z at *
  generalize (T.sum : Int) = S at *
  generalize (t : Int) = t' at *
  generalize iL T = tt at *
  generalize fSum = fs at *
  generalize f_law_plain = ff at *
  simp only [mDef, En.start, oSeq, oIf, oRet, oSet, oOwn, putOwn_z, putOwn_s, oPar, oNx, oFail, oEx, _root_.R.m2, _root_.R.m1, _root_.R.mA, aCons, aNil, _root_.R.mB, _root_.R.mC, mCh, _root_.R.mT, mNot, mAnd, mOr, mAndV, mOrV, mNotV, mIf, mTup, mLst, mList, asB_b, allS_leaf, wipe_n, wipe_c, wset_z, wset_s, tYesM, oAsg, gPut, gTp, gsCons, gsNil, mSeq, seq_l, seq_t, bind_leaf, bind_fail, lineOk_1, lineOk_2, lineOk_3, mPeek_z, mPeek_s, mVar_z, mVar_s, put_z, put_s, opAdd_i, opSub_i, opNeg_i, cLt_i, cLe_i, cGt_i, cGe_i, cEq_i, cNe_i, fAbs_i, fInt_i, fLen_t, fLen_l, ix0, ix1, Bool.false_eq_true, Bool.not_true, Bool.not_false, List.length_cons, List.length_nil, List.map_cons, List.map_nil, List.cons_append, List.nil_append, List.replicate, Nat.reduceAdd, Nat.reduceSub, Nat.zero_add, if_true, if_false, ↓reduceIte, k1, k2]
theorem lot_S {m : Nat} {w : Int} (m1 : 1 ≤ m) (m8 : m ≤ 8) (w1 : 1 ≤ w) (w2 : w ≤ 1000) : AllS (LotL m w.toNat) (f_law_lot [.pot, .int (m : Int), .int w]) := by
  have d4 := drS 4 (by omega) (by omega)
  have dw := drS (w + 1) (by omega) (by omega)
  have dm := drS (m : Int) (by omega) (by omega)
  have w1' : AllS (fun ys => ys.length = (List.range m).length ∧ ∀ y ∈ ys, ∃ k : Nat, k ≤ w.toNat ∧ y = .int (k : Int)) (mLc (mRange1 (mPeek 1)) [5] (gPut 5) tYesM (mIf (mC cGt (mA f_law_draw (aCons (mVar 0) (aCons (fun _ => .leaf (.int 4)) aNil))) (fun _ => .leaf (.int 0))) (mA f_law_draw (aCons (mVar 0) (aCons (m2 opAdd (mPeek 2) (fun _ => .leaf (.int 1))) aNil))) (fun _ => .leaf (.int 0)))
      [some ⟨false, .pot⟩, some ⟨false, .int (m : Int)⟩, some ⟨false, .int w⟩, none, none, none, none]) := by
    refine mLcS (L := List.range m) (dx := fun i : Nat => .int (i : Int)) (range1_at (by walk_at "ev") (by omega)) (by rw [List.length_range]; omega) fun i hi => ⟨[some ⟨false, .pot⟩, some ⟨false, .int (m : Int)⟩, some ⟨false, .int w⟩, none, none, some ⟨false, .int (i : Int)⟩, none], by walk_at "ev", rfl, ?_⟩
    generalize f_law_draw = fd at *
    walk_at "ev"
    repeat rw [allS_bind]
    refine allS_go d4 ?_
    intro j j0 j1
    try walk_at "ev"
    by_cases h : 0 < j
    · simp only [mDef, En.start, oSeq, oIf, oRet, oSet, oOwn, putOwn_z, putOwn_s, oPar, oNx, oFail, oEx, _root_.R.m2, _root_.R.m1, _root_.R.mA, aCons, aNil, _root_.R.mB, _root_.R.mC, mCh, _root_.R.mT, mNot, mAnd, mOr, mAndV, mOrV, mNotV, mIf, mTup, mLst, mList, asB_b, allS_leaf, wipe_n, wipe_c, wset_z, wset_s, tYesM, oAsg, gPut, gTp, gsCons, gsNil, mSeq, seq_l, seq_t, bind_leaf, bind_fail, lineOk_1, lineOk_2, lineOk_3, mPeek_z, mPeek_s, mVar_z, mVar_s, put_z, put_s, opAdd_i, opSub_i, opNeg_i, cLt_i, cLe_i, cGt_i, cGe_i, cEq_i, cNe_i, fAbs_i, fInt_i, fLen_t, fLen_l, ix0, ix1, Bool.false_eq_true, Bool.not_true, Bool.not_false, List.length_cons, List.length_nil, List.map_cons, List.map_nil, List.cons_append, List.nil_append, List.replicate, Nat.reduceAdd, Nat.reduceSub, Nat.zero_add, if_true, if_false, ↓reduceIte, decide_eq_true h]
      refine allS_mono dw fun x hx => ?_
      obtain ⟨i, i0, i1, rfl⟩ := hx
      exact ⟨i.toNat, by omega, by rw [Int.toNat_of_nonneg i0]⟩
    · simp only [mDef, En.start, oSeq, oIf, oRet, oSet, oOwn, putOwn_z, putOwn_s, oPar, oNx, oFail, oEx, _root_.R.m2, _root_.R.m1, _root_.R.mA, aCons, aNil, _root_.R.mB, _root_.R.mC, mCh, _root_.R.mT, mNot, mAnd, mOr, mAndV, mOrV, mNotV, mIf, mTup, mLst, mList, asB_b, allS_leaf, wipe_n, wipe_c, wset_z, wset_s, tYesM, oAsg, gPut, gTp, gsCons, gsNil, mSeq, seq_l, seq_t, bind_leaf, bind_fail, lineOk_1, lineOk_2, lineOk_3, mPeek_z, mPeek_s, mVar_z, mVar_s, put_z, put_s, opAdd_i, opSub_i, opNeg_i, cLt_i, cLe_i, cGt_i, cGe_i, cEq_i, cNe_i, fAbs_i, fInt_i, fLen_t, fLen_l, ix0, ix1, Bool.false_eq_true, Bool.not_true, Bool.not_false, List.length_cons, List.length_nil, List.map_cons, List.map_nil, List.cons_append, List.nil_append, List.replicate, Nat.reduceAdd, Nat.reduceSub, Nat.zero_add, if_true, if_false, ↓reduceIte, decide_eq_false h]
      exact ⟨0, by omega, rfl⟩
  unfold f_law_lot b_law_lot
  generalize hml : mLc = ml at *
  walk_at "ev"
  repeat rw [allS_bind]
  refine allS_mono w1' fun ys hy => ?_
  clear w1'
  obtain ⟨hlen, hy⟩ := hy
  rw [List.length_range] at hlen
  obtain ⟨T, rfl, hT⟩ := iL_of ys hy
  have hTl : T.length = m := by rw [← hlen, iL_len]
  clear hy hlen d4 dw
  generalize hos : oStore 3 (mPeek 4) = os at *
  walk_at "ev"
  repeat rw [allS_bind]
  refine allS_go dm ?_
  intro j j0 j1
  obtain ⟨j, rfl⟩ := Int.eq_ofNat_of_zero_le j0
  have hj : j < T.length := by omega
  have hst : oStore 3 (mPeek 4) (m2 opAdd (m2 opIx (mPeek 3) (mPeek 4)) (fun _ => .leaf (.int 1))) [some ⟨false, .pot⟩, some ⟨false, .int (m : Int)⟩, some ⟨false, .int w⟩, some ⟨true, .lst (iL T)⟩, some ⟨false, .int (j : Int)⟩, none, none] = .leaf (.nx [some ⟨false, .pot⟩, some ⟨false, .int (m : Int)⟩, some ⟨false, .int w⟩, some ⟨true, .lst (iL (T.set j (T[j] + 1)))⟩, some ⟨false, .int (j : Int)⟩, none, none]) := by
    rw [← iL_set]
    refine store7 ?_ rfl (by rw [iL_len]; exact hj)
    have k := atl (ds := iL T) (k := j) (by rw [iL_len]; exact hj)
    have e : (iL T)[j]'(by rw [iL_len]; exact hj) = .int (T[j] : Int) := by unfold iL; rw [List.getElem_map]
    rw [e] at k
    rw [show ((T[j] + 1 : Nat) : Int) = (T[j] : Int) + 1 from rfl]
    generalize (T[j] : Int) = x at *
    generalize (j : Int) = J at *
    generalize opIx = oi at *
    simp only [mDef, En.start, oSeq, oIf, oRet, oSet, oOwn, putOwn_z, putOwn_s, oPar, oNx, oFail, oEx, _root_.R.m2, _root_.R.m1, _root_.R.mA, aCons, aNil, _root_.R.mB, _root_.R.mC, mCh, _root_.R.mT, mNot, mAnd, mOr, mAndV, mOrV, mNotV, mIf, mTup, mLst, mList, asB_b, allS_leaf, wipe_n, wipe_c, wset_z, wset_s, tYesM, oAsg, gPut, gTp, gsCons, gsNil, mSeq, seq_l, seq_t, bind_leaf, bind_fail, lineOk_1, lineOk_2, lineOk_3, mPeek_z, mPeek_s, mVar_z, mVar_s, put_z, put_s, opAdd_i, opSub_i, opNeg_i, cLt_i, cLe_i, cGt_i, cGe_i, cEq_i, cNe_i, fAbs_i, fInt_i, fLen_t, fLen_l, ix0, ix1, Bool.false_eq_true, Bool.not_true, Bool.not_false, List.length_cons, List.length_nil, List.map_cons, List.map_nil, List.cons_append, List.nil_append, List.replicate, Nat.reduceAdd, Nat.reduceSub, Nat.zero_add, if_true, if_false, ↓reduceIte, k]
  have hp : 0 < (T.set j (T[j] + 1)).sum := by
    have := mem_le_sum (List.mem_set (l := T) (i := j) (a := T[j] + 1) hj)
    omega
  have hs2 : (T.set j (T[j] + 1)).sum ≤ m * w.toNat + 1 ∧ (T.set j (T[j] + 1)).sum ≤ 8001 := by
    have e1 : ∀ (L : List Nat) (i : Nat) (h : i < L.length), (L.set i (L[i] + 1)).sum = L.sum + 1 := fun L => by
      induction L with
      | nil => intro i h; cases h
      | cons a L ih =>
        intro i h
        cases i with
        | zero => rw [List.set_cons_zero, List.sum_cons, List.sum_cons]; simp; omega
        | succ i =>
          have := ih i (by simpa using h)
          rw [List.set_cons_succ, List.sum_cons, List.sum_cons]
          simp only [List.getElem_cons_succ]
          omega
    rw [e1 T j hj]
    have h1 := sum_le3 T hT
    have h2 : T.length * w.toNat ≤ 8 * 1000 := Nat.mul_le_mul (by omega) (by omega)
    rw [hTl] at h1 h2
    omega
  obtain ⟨hs2, hs⟩ := hs2
  have h7 := tops7 (T := T.set j (T[j] + 1)) (by rw [List.length_set]; omega) hp hs (p := some ⟨false, .pot⟩) (m := some ⟨false, .int (m : Int)⟩) (x := some ⟨false, .int w⟩) (y := some ⟨false, .int (j : Int)⟩) (z := none)
  rw [hml] at h7
  rw [hos] at hst
  have ft : fTuple [.lst ((T.set j (T[j] + 1)).map fun t => fr (frT (T.set j (T[j] + 1)).sum t))] = .leaf (lotD ((T.set j (T[j] + 1)).map (frT (T.set j (T[j] + 1)).sum))) := by
    show Tree.leaf (D.tup _) = _
    unfold lotD
    rw [List.map_map]
    rfl
  have fin : LotL m w.toNat (lotD ((T.set j (T[j] + 1)).map (frT (T.set j (T[j] + 1)).sum))) := ⟨_, rfl, by rw [List.length_set]; exact hTl, hp, hs2, hs⟩
  generalize ((T.set j (T[j] + 1)).map fun t => fr (frT (T.set j (T[j] + 1)).sum t)) = z at *
  generalize lotD ((T.set j (T[j] + 1)).map (frT (T.set j (T[j] + 1)).sum)) = res at *
  generalize fTuple = fu at *
  simp only [mDef, En.start, oSeq, oIf, oRet, oSet, oOwn, putOwn_z, putOwn_s, oPar, oNx, oFail, oEx, _root_.R.m2, _root_.R.m1, _root_.R.mA, aCons, aNil, _root_.R.mB, _root_.R.mC, mCh, _root_.R.mT, mNot, mAnd, mOr, mAndV, mOrV, mNotV, mIf, mTup, mLst, mList, asB_b, allS_leaf, wipe_n, wipe_c, wset_z, wset_s, tYesM, oAsg, gPut, gTp, gsCons, gsNil, mSeq, seq_l, seq_t, bind_leaf, bind_fail, lineOk_1, lineOk_2, lineOk_3, mPeek_z, mPeek_s, mVar_z, mVar_s, put_z, put_s, opAdd_i, opSub_i, opNeg_i, cLt_i, cLe_i, cGt_i, cGe_i, cEq_i, cNe_i, fAbs_i, fInt_i, fLen_t, fLen_l, ix0, ix1, Bool.false_eq_true, Bool.not_true, Bool.not_false, List.length_cons, List.length_nil, List.map_cons, List.map_nil, List.cons_append, List.nil_append, List.replicate, Nat.reduceAdd, Nat.reduceSub, Nat.zero_add, if_true, if_false, ↓reduceIte, hst, h7, ft]
  exact fin
end Law

set_option maxRecDepth 100000
set_option linter.all false
namespace Law
open R PySem L2
local macro_rules | `(tactic| walk_at "ev") => `(tactic| simp only [mDef, En.start, oSeq, oIf, oRet, oSet, oOwn, putOwn_z, putOwn_s, oPar, oNx, oFail, oEx, m2, m1, mA, aCons, aNil, mB, mC, mCh, mT, mNot, mAnd, mOr, mAndV, mOrV, mNotV, mIf, mTup, mLst, mList, asB_b, allS_leaf, wipe_n, wipe_c, wset_z, wset_s, tYesM, oAsg, gPut, gTp, gsCons, gsNil, mSeq, seq_l, seq_t, bind_leaf, bind_fail, lineOk_1, lineOk_2, lineOk_3, mPeek_z, mPeek_s, mVar_z, mVar_s, put_z, put_s, opAdd_i, opSub_i, opNeg_i, cLt_i, cLe_i, cGt_i, cGe_i, cEq_i, cNe_i, fAbs_i, fInt_i, fLen_t, fLen_l, ix0, ix1, Bool.false_eq_true, Bool.not_true, Bool.not_false,
  List.length_cons, List.length_nil, List.map_cons, List.map_nil, List.cons_append, List.nil_append, List.replicate, Nat.reduceAdd, Nat.reduceSub, Nat.zero_add, if_true, if_false, ↓reduceIte])

theorem law_plain_fr {t b : Int} (hb : 0 < b) (h1 : b.natAbs < BB) (h2 : t.natAbs < BB) : f_law_plain [.int t, .int b] = .leaf (fr ((t : Rat) / (b : Rat))) := by rw [law_plain_fq hb h1 h2, fq_fr hb]
theorem law_times_fr {p q : Rat} (hp : Sz 4000 p) (hq : Sz 4000 q) : f_law_times [fr p, fr q] = .leaf (fr (p * q)) := by
  obtain ⟨a1, a2⟩ := sz_ba hp (by omega)
  obtain ⟨b1, b2⟩ := sz_ba hq (by omega)
  have hL := ba_le
  have h2 := nmul a2 b2
  have h3 := nmul a1 b1
  have hB := bab
  have k := law_plain_fr (t := p.num * q.num) (b := p.den * q.den) (Int.mul_pos (den_pos' p) (den_pos' q)) (by omega) (by omega)
  rw [frac_mul] at k
  have o1 := opMul_i (i := p.num) (j := q.num) (by omega) (by omega)
  have o3 := opMul_i (i := p.den) (j := q.den) (by omega) (by omega)
  generalize hz : fr (p * q) = z at *
  clear hz h2 h3 a1 a2 b1 b2 hp hq
  unfold fr f_law_times b_law_times
  generalize (p.den : Int) = pd at *
  generalize (q.den : Int) = qd at *
  generalize f_law_plain = ff at *
  generalize opMul = om at *
  simp only [mDef, En.start, oSeq, oIf, oRet, oSet, oOwn, putOwn_z, putOwn_s, oPar, oNx, oFail, oEx, _root_.R.m2, _root_.R.m1, _root_.R.mA, aCons, aNil, _root_.R.mB, _root_.R.mC, mCh, _root_.R.mT, mNot, mAnd, mOr, mAndV, mOrV, mNotV, mIf, mTup, mLst, mList, asB_b, allS_leaf, wipe_n, wipe_c, wset_z, wset_s, tYesM, oAsg, gPut, gTp, gsCons, gsNil, mSeq, seq_l, seq_t, bind_leaf, bind_fail, lineOk_1, lineOk_2, lineOk_3, mPeek_z, mPeek_s, mVar_z, mVar_s, put_z, put_s, opAdd_i, opSub_i, opNeg_i, cLt_i, cLe_i, cGt_i, cGe_i, cEq_i, cNe_i, fAbs_i, fInt_i, fLen_t, fLen_l, ix0, ix1, Bool.false_eq_true, Bool.not_true, Bool.not_false, List.length_cons, List.length_nil, List.map_cons, List.map_nil, List.cons_append, List.nil_append, List.replicate, Nat.reduceAdd, Nat.reduceSub, Nat.zero_add, if_true, if_false, ↓reduceIte, o1, o3, k]
theorem law_total_l {n : Nat} (L : List Rat) (hL : ∀ q ∈ L, Sz n q) (h : 1 + L.length * (n + 1) ≤ 4000) (hn : n ≤ 4000) : f_law_total [.lst (L.map fr)] = .leaf (fr L.sum) := by
  obtain ⟨y, hl⟩ := law_total_loop (p := some ⟨false, .lst (L.map fr)⟩) L 0 none 1 (sz_zero 1 (by omega)) hL h hn
  rw [show (0 : Rat) + L.sum = L.sum by grind, fr_zero] at hl
  unfold f_law_total b_law_total
  generalize f_law_plus = fa at *
  have hs : mSeq (mVar 0) [some ⟨false, .lst (L.map fr)⟩, some ⟨false, .tup [.int 0, .int 1]⟩, none] = .leaf (L.map fr) := by walk_at "ev"
  have hf := for_at hs hl
  generalize oFor = ff at *
  generalize L.map fr = z at *
  simp only [mDef, En.start, oSeq, oIf, oRet, oSet, oOwn, putOwn_z, putOwn_s, oPar, oNx, oFail, oEx, _root_.R.m2, _root_.R.m1, _root_.R.mA, aCons, aNil, _root_.R.mB, _root_.R.mC, mCh, _root_.R.mT, mNot, mAnd, mOr, mAndV, mOrV, mNotV, mIf, mTup, mLst, mList, asB_b, allS_leaf, wipe_n, wipe_c, wset_z, wset_s, tYesM, oAsg, gPut, gTp, gsCons, gsNil, mSeq, seq_l, seq_t, bind_leaf, bind_fail, lineOk_1, lineOk_2, lineOk_3, mPeek_z, mPeek_s, mVar_z, mVar_s, put_z, put_s, opAdd_i, opSub_i, opNeg_i, cLt_i, cLe_i, cGt_i, cGe_i, cEq_i, cNe_i, fAbs_i, fInt_i, fLen_t, fLen_l, ix0, ix1, Bool.false_eq_true, Bool.not_true, Bool.not_false, List.length_cons, List.length_nil, List.map_cons, List.map_nil, List.cons_append, List.nil_append, List.replicate, Nat.reduceAdd, Nat.reduceSub, Nat.zero_add, if_true, if_false, ↓reduceIte, hf]

/-! ### means, both ways -/
def dotR (P Q : List Rat) : Rat := ((P.zip Q).map fun x => x.1 * x.2).sum
theorem dot_sz {n1 n2 : Nat} {P Q : List Rat} (hP : ∀ q ∈ P, Sz n1 q) (hQ : ∀ q ∈ Q, Sz n2 q) : ∀ z ∈ (P.zip Q).map fun x => x.1 * x.2, Sz (n1 + n2) z := fun z hz => by
  obtain ⟨x, hx, rfl⟩ := List.mem_map.mp hz
  exact sz_mul (hP _ (List.of_mem_zip hx).1) (hQ _ (List.of_mem_zip hx).2)
theorem zip_len {α β : Type} {P : List α} {Q : List β} (h : P.length ≤ 8) : (P.zip Q).length ≤ 8 := by rw [List.length_zip]; omega
theorem psum_fr {x y : D} {P Q : List Rat} {n1 n2 : Nat} (sx : seqOf x = .leaf (P.map fr)) (sy : seqOf y = .leaf (Q.map fr)) (hP : ∀ q ∈ P, Sz n1 q) (hQ : ∀ q ∈ Q, Sz n2 q) (hl : P.length ≤ 8) (hb : 1 + 8 * (n1 + n2 + 1) ≤ 4000) :
    f_products_sum [x, y] = .leaf (fr (dotR P Q)) := by
  have c1 : mLc (mZip (mPeek 0) (mPeek 1)) [2, 3] (gTp 2 (gsCons (gPut 2) (gsCons (gPut 3) gsNil))) tYesM (mA f_multiply (aCons (mVar 2) (aCons (mVar 3) aNil))) [some ⟨false, x⟩, some ⟨false, y⟩, none, none] = .leaf ((P.zip Q).map fun z => fr (z.1 * z.2)) := by
    refine mLc_at (L := P.zip Q) (dx := fun z => .tup [fr z.1, fr z.2]) (by rw [zip_at (d := x) (d' := y) (by simp only [mDef, En.start, oSeq, oIf, oRet, oSet, oOwn, putOwn_z, putOwn_s, oPar, oNx, oFail, oEx, _root_.R.m2, _root_.R.m1, _root_.R.mA, aCons, aNil, _root_.R.mB, _root_.R.mC, mCh, _root_.R.mT, mNot, mAnd, mOr, mAndV, mOrV, mNotV, mIf, mTup, mLst, mList, asB_b, allS_leaf, wipe_n, wipe_c, wset_z, wset_s, tYesM, oAsg, gPut, gTp, gsCons, gsNil, mSeq, seq_l, seq_t, bind_leaf, bind_fail, lineOk_1, lineOk_2, lineOk_3, mPeek_z, mPeek_s, mVar_z, mVar_s, put_z, put_s, opAdd_i, opSub_i, opNeg_i, cLt_i, cLe_i, cGt_i, cGe_i, cEq_i, cNe_i, fAbs_i, fInt_i, fLen_t, fLen_l, ix0, ix1, Bool.false_eq_true, Bool.not_true, Bool.not_false, List.length_cons, List.length_nil, List.map_cons, List.map_nil, List.cons_append, List.nil_append, List.replicate, Nat.reduceAdd, Nat.reduceSub, Nat.zero_add, if_true, if_false, ↓reduceIte]) (by simp only [mDef, En.start, oSeq, oIf, oRet, oSet, oOwn, putOwn_z, putOwn_s, oPar, oNx, oFail, oEx, _root_.R.m2, _root_.R.m1, _root_.R.mA, aCons, aNil, _root_.R.mB, _root_.R.mC, mCh, _root_.R.mT, mNot, mAnd, mOr, mAndV, mOrV, mNotV, mIf, mTup, mLst, mList, asB_b, allS_leaf, wipe_n, wipe_c, wset_z, wset_s, tYesM, oAsg, gPut, gTp, gsCons, gsNil, mSeq, seq_l, seq_t, bind_leaf, bind_fail, lineOk_1, lineOk_2, lineOk_3, mPeek_z, mPeek_s, mVar_z, mVar_s, put_z, put_s, opAdd_i, opSub_i, opNeg_i, cLt_i, cLe_i, cGt_i, cGe_i, cEq_i, cNe_i, fAbs_i, fInt_i, fLen_t, fLen_l, ix0, ix1, Bool.false_eq_true, Bool.not_true, Bool.not_false, List.length_cons, List.length_nil, List.map_cons, List.map_nil, List.cons_append, List.nil_append, List.replicate, Nat.reduceAdd, Nat.reduceSub, Nat.zero_add, if_true, if_false, ↓reduceIte]) sx sy, zip_fr]) (by have := zip_len (Q := Q) hl; omega) fun z hz => ⟨[some ⟨false, x⟩, some ⟨false, y⟩, some ⟨false, fr z.1⟩, some ⟨false, fr z.2⟩], by walk_at "ev", rfl, ?_⟩
    have k := multiply_fr ((hP _ (List.of_mem_zip hz).1).mono (m := 4000) (by omega)) ((hQ _ (List.of_mem_zip hz).2).mono (m := 4000) (by omega))
    generalize f_multiply = fm at *
    simp only [mDef, En.start, oSeq, oIf, oRet, oSet, oOwn, putOwn_z, putOwn_s, oPar, oNx, oFail, oEx, _root_.R.m2, _root_.R.m1, _root_.R.mA, aCons, aNil, _root_.R.mB, _root_.R.mC, mCh, _root_.R.mT, mNot, mAnd, mOr, mAndV, mOrV, mNotV, mIf, mTup, mLst, mList, asB_b, allS_leaf, wipe_n, wipe_c, wset_z, wset_s, tYesM, oAsg, gPut, gTp, gsCons, gsNil, mSeq, seq_l, seq_t, bind_leaf, bind_fail, lineOk_1, lineOk_2, lineOk_3, mPeek_z, mPeek_s, mVar_z, mVar_s, put_z, put_s, opAdd_i, opSub_i, opNeg_i, cLt_i, cLe_i, cGt_i, cGe_i, cEq_i, cNe_i, fAbs_i, fInt_i, fLen_t, fLen_l, ix0, ix1, Bool.false_eq_true, Bool.not_true, Bool.not_false, List.length_cons, List.length_nil, List.map_cons, List.map_nil, List.cons_append, List.nil_append, List.replicate, Nat.reduceAdd, Nat.reduceSub, Nat.zero_add, if_true, if_false, ↓reduceIte, k]
  have t1 := total_l ((P.zip Q).map fun z => z.1 * z.2) (dot_sz hP hQ) (by
    rw [List.length_map]
    have := zip_len (Q := Q) hl
    have := Nat.mul_le_mul_right (n1 + n2 + 1) this
    omega) (by omega)
  rw [List.map_map] at t1
  have t1 : f_total [.lst ((P.zip Q).map fun z => fr (z.1 * z.2))] = .leaf (fr (dotR P Q)) := t1
  unfold f_products_sum b_products_sum
  generalize f_total = ft at *
  generalize mLc = ml at *
  generalize ((P.zip Q).map fun z => fr (z.1 * z.2)) = zs at *
  simp only [mDef, En.start, oSeq, oIf, oRet, oSet, oOwn, putOwn_z, putOwn_s, oPar, oNx, oFail, oEx, _root_.R.m2, _root_.R.m1, _root_.R.mA, aCons, aNil, _root_.R.mB, _root_.R.mC, mCh, _root_.R.mT, mNot, mAnd, mOr, mAndV, mOrV, mNotV, mIf, mTup, mLst, mList, asB_b, allS_leaf, wipe_n, wipe_c, wset_z, wset_s, tYesM, oAsg, gPut, gTp, gsCons, gsNil, mSeq, seq_l, seq_t, bind_leaf, bind_fail, lineOk_1, lineOk_2, lineOk_3, mPeek_z, mPeek_s, mVar_z, mVar_s, put_z, put_s, opAdd_i, opSub_i, opNeg_i, cLt_i, cLe_i, cGt_i, cGe_i, cEq_i, cNe_i, fAbs_i, fInt_i, fLen_t, fLen_l, ix0, ix1, Bool.false_eq_true, Bool.not_true, Bool.not_false, List.length_cons, List.length_nil, List.map_cons, List.map_nil, List.cons_append, List.nil_append, List.replicate, Nat.reduceAdd, Nat.reduceSub, Nat.zero_add, if_true, if_false, ↓reduceIte, c1, t1]
theorem lmean_fr {x y : D} {P Q : List Rat} {n1 n2 : Nat} (sx : seqOf x = .leaf (P.map fr)) (sy : seqOf y = .leaf (Q.map fr)) (hP : ∀ q ∈ P, Sz n1 q) (hQ : ∀ q ∈ Q, Sz n2 q) (hl : P.length ≤ 8) (hb : 1 + 8 * (n1 + n2 + 1) ≤ 4000) :
    f_law_mean [x, y] = .leaf (fr (dotR P Q)) := by
  have c1 : mLc (mZip (mPeek 0) (mPeek 1)) [2, 3] (gTp 2 (gsCons (gPut 2) (gsCons (gPut 3) gsNil))) tYesM (mA f_law_times (aCons (mVar 2) (aCons (mVar 3) aNil))) [some ⟨false, x⟩, some ⟨false, y⟩, none, none] = .leaf ((P.zip Q).map fun z => fr (z.1 * z.2)) := by
    refine mLc_at (L := P.zip Q) (dx := fun z => .tup [fr z.1, fr z.2]) (by rw [zip_at (d := x) (d' := y) (by simp only [mDef, En.start, oSeq, oIf, oRet, oSet, oOwn, putOwn_z, putOwn_s, oPar, oNx, oFail, oEx, _root_.R.m2, _root_.R.m1, _root_.R.mA, aCons, aNil, _root_.R.mB, _root_.R.mC, mCh, _root_.R.mT, mNot, mAnd, mOr, mAndV, mOrV, mNotV, mIf, mTup, mLst, mList, asB_b, allS_leaf, wipe_n, wipe_c, wset_z, wset_s, tYesM, oAsg, gPut, gTp, gsCons, gsNil, mSeq, seq_l, seq_t, bind_leaf, bind_fail, lineOk_1, lineOk_2, lineOk_3, mPeek_z, mPeek_s, mVar_z, mVar_s, put_z, put_s, opAdd_i, opSub_i, opNeg_i, cLt_i, cLe_i, cGt_i, cGe_i, cEq_i, cNe_i, fAbs_i, fInt_i, fLen_t, fLen_l, ix0, ix1, Bool.false_eq_true, Bool.not_true, Bool.not_false, List.length_cons, List.length_nil, List.map_cons, List.map_nil, List.cons_append, List.nil_append, List.replicate, Nat.reduceAdd, Nat.reduceSub, Nat.zero_add, if_true, if_false, ↓reduceIte]) (by simp only [mDef, En.start, oSeq, oIf, oRet, oSet, oOwn, putOwn_z, putOwn_s, oPar, oNx, oFail, oEx, _root_.R.m2, _root_.R.m1, _root_.R.mA, aCons, aNil, _root_.R.mB, _root_.R.mC, mCh, _root_.R.mT, mNot, mAnd, mOr, mAndV, mOrV, mNotV, mIf, mTup, mLst, mList, asB_b, allS_leaf, wipe_n, wipe_c, wset_z, wset_s, tYesM, oAsg, gPut, gTp, gsCons, gsNil, mSeq, seq_l, seq_t, bind_leaf, bind_fail, lineOk_1, lineOk_2, lineOk_3, mPeek_z, mPeek_s, mVar_z, mVar_s, put_z, put_s, opAdd_i, opSub_i, opNeg_i, cLt_i, cLe_i, cGt_i, cGe_i, cEq_i, cNe_i, fAbs_i, fInt_i, fLen_t, fLen_l, ix0, ix1, Bool.false_eq_true, Bool.not_true, Bool.not_false, List.length_cons, List.length_nil, List.map_cons, List.map_nil, List.cons_append, List.nil_append, List.replicate, Nat.reduceAdd, Nat.reduceSub, Nat.zero_add, if_true, if_false, ↓reduceIte]) sx sy, zip_fr]) (by have := zip_len (Q := Q) hl; omega) fun z hz => ⟨[some ⟨false, x⟩, some ⟨false, y⟩, some ⟨false, fr z.1⟩, some ⟨false, fr z.2⟩], by walk_at "ev", rfl, ?_⟩
    have k := law_times_fr ((hP _ (List.of_mem_zip hz).1).mono (m := 4000) (by omega)) ((hQ _ (List.of_mem_zip hz).2).mono (m := 4000) (by omega))
    generalize f_law_times = fm at *
    simp only [mDef, En.start, oSeq, oIf, oRet, oSet, oOwn, putOwn_z, putOwn_s, oPar, oNx, oFail, oEx, _root_.R.m2, _root_.R.m1, _root_.R.mA, aCons, aNil, _root_.R.mB, _root_.R.mC, mCh, _root_.R.mT, mNot, mAnd, mOr, mAndV, mOrV, mNotV, mIf, mTup, mLst, mList, asB_b, allS_leaf, wipe_n, wipe_c, wset_z, wset_s, tYesM, oAsg, gPut, gTp, gsCons, gsNil, mSeq, seq_l, seq_t, bind_leaf, bind_fail, lineOk_1, lineOk_2, lineOk_3, mPeek_z, mPeek_s, mVar_z, mVar_s, put_z, put_s, opAdd_i, opSub_i, opNeg_i, cLt_i, cLe_i, cGt_i, cGe_i, cEq_i, cNe_i, fAbs_i, fInt_i, fLen_t, fLen_l, ix0, ix1, Bool.false_eq_true, Bool.not_true, Bool.not_false, List.length_cons, List.length_nil, List.map_cons, List.map_nil, List.cons_append, List.nil_append, List.replicate, Nat.reduceAdd, Nat.reduceSub, Nat.zero_add, if_true, if_false, ↓reduceIte, k]
  have t1 := law_total_l ((P.zip Q).map fun z => z.1 * z.2) (dot_sz hP hQ) (by
    rw [List.length_map]
    have := zip_len (Q := Q) hl
    have := Nat.mul_le_mul_right (n1 + n2 + 1) this
    omega) (by omega)
  rw [List.map_map] at t1
  have t1 : f_law_total [.lst ((P.zip Q).map fun z => fr (z.1 * z.2))] = .leaf (fr (dotR P Q)) := t1
  unfold f_law_mean b_law_mean
  generalize f_law_total = ft at *
  generalize mLc = ml at *
  generalize ((P.zip Q).map fun z => fr (z.1 * z.2)) = zs at *
  simp only [mDef, En.start, oSeq, oIf, oRet, oSet, oOwn, putOwn_z, putOwn_s, oPar, oNx, oFail, oEx, _root_.R.m2, _root_.R.m1, _root_.R.mA, aCons, aNil, _root_.R.mB, _root_.R.mC, mCh, _root_.R.mT, mNot, mAnd, mOr, mAndV, mOrV, mNotV, mIf, mTup, mLst, mList, asB_b, allS_leaf, wipe_n, wipe_c, wset_z, wset_s, tYesM, oAsg, gPut, gTp, gsCons, gsNil, mSeq, seq_l, seq_t, bind_leaf, bind_fail, lineOk_1, lineOk_2, lineOk_3, mPeek_z, mPeek_s, mVar_z, mVar_s, put_z, put_s, opAdd_i, opSub_i, opNeg_i, cLt_i, cLe_i, cGt_i, cGe_i, cEq_i, cNe_i, fAbs_i, fInt_i, fLen_t, fLen_l, ix0, ix1, Bool.false_eq_true, Bool.not_true, Bool.not_false, List.length_cons, List.length_nil, List.map_cons, List.map_nil, List.cons_append, List.nil_append, List.replicate, Nat.reduceAdd, Nat.reduceSub, Nat.zero_add, if_true, if_false, ↓reduceIte, c1, t1]
end Law

set_option maxRecDepth 100000
set_option linter.all false
namespace Law
open R PySem L2
/-! ### the spread, plainly -/
def z0 (Z : List (Rat × Rat)) : Rat := (Z.map fun a => a.1).sum
def z1 (Z : List (Rat × Rat)) : Rat := (Z.map fun a => a.1 * a.2).sum
def z2 (Z : List (Rat × Rat)) : Rat := (Z.map fun a => a.1 * (a.2 * a.2)).sum
def prR (a b : Rat × Rat) : Rat := a.1 * b.1 * ((a.2 - b.2) * (a.2 - b.2))
theorem spread_in (a : Rat × Rat) : ∀ Z : List (Rat × Rat), (Z.map (prR a)).sum = a.1 * (a.2 * a.2 * z0 Z - 2 * a.2 * z1 Z + z2 Z)
  | [] => by simp [z0, z1, z2]; grind
  | b :: Z => by
    have ih := spread_in a Z
    unfold z0 z1 z2 at *
    rw [List.map_cons, List.map_cons, List.map_cons, List.map_cons, List.sum_cons, List.sum_cons, List.sum_cons, List.sum_cons, ih]
    unfold prR
    grind
theorem spread_out (s0 s1 s2 : Rat) : ∀ Z : List (Rat × Rat), (Z.map fun a => a.1 * (a.2 * a.2 * s0 - 2 * a.2 * s1 + s2)).sum = z2 Z * s0 - 2 * z1 Z * s1 + z0 Z * s2
  | [] => by simp [z0, z1, z2]; grind
  | b :: Z => by
    have ih := spread_out s0 s1 s2 Z
    unfold z0 z1 z2 at *
    rw [List.map_cons, List.map_cons, List.map_cons, List.map_cons, List.sum_cons, List.sum_cons, List.sum_cons, List.sum_cons, ih]
    grind
theorem sum_flat : ∀ (L : List (List Rat)), L.flatten.sum = (L.map List.sum).sum
  | [] => rfl
  | x :: L => by rw [List.flatten_cons, List.sum_append, List.map_cons, List.sum_cons, sum_flat L]
/-- half the sum over all pairs is the mean of squares less the square of the mean -/
theorem spread_law (Z : List (Rat × Rat)) (h : z0 Z = 1) : (Z.map fun a => Z.map (prR a)).flatten.sum * (1 / 2) = z2 Z - z1 Z * z1 Z := by
  rw [sum_flat, List.map_map]
  have e : (List.sum ∘ fun a => Z.map (prR a)) = fun a => a.1 * (a.2 * a.2 * z0 Z - 2 * a.2 * z1 Z + z2 Z) := funext fun a => spread_in a Z
  rw [e, spread_out, h]
  grind
end Law

set_option maxRecDepth 100000
set_option linter.all false
namespace R
open PySem L2
open Tree (leaf fail)
theorem lc_filter {β : Type} {g : D → En → Tree En} {mt : En → Tree Bool} {me : En → Tree D} {E : En} {dx f : β → D} {t : β → Bool} : ∀ L : List β, (∀ x ∈ L, ∃ E', g (dx x) E = .leaf E' ∧ mt E' = .leaf (t x) ∧ me E' = .leaf (f x)) → lcLoop g mt me E (L.map dx) = .leaf ((L.filter t).map f)
  | [], _ => rfl
  | x :: L, h => by
    obtain ⟨E', h1, h2, h3⟩ := h x List.mem_cons_self
    have ih := lc_filter L fun y hy => h y (List.mem_cons_of_mem _ hy)
    rw [List.map_cons]
    unfold lcLoop
    rw [h1, bind_leaf, h2, bind_leaf]
    cases ht : t x with
    | true => rw [if_pos rfl, h3, bind_leaf, ih, bind_leaf, List.filter_cons_of_pos ht, List.map_cons]
    | false => rw [if_neg (by decide), ih, List.filter_cons_of_neg (by simp [ht])]
theorem mLc_filter {β : Type} {mi : En → Tree (List D)} {vs : List Nat} {g : D → En → Tree En} {mt : En → Tree Bool} {me : En → Tree D} {E : En} {dx f : β → D} {t : β → Bool} {L : List β} (hi : mi E = .leaf (L.map dx)) (hl : L.length ≤ 100) (h : ∀ x ∈ L, ∃ E', g (dx x) (wipeE E vs) = .leaf E' ∧ mt E' = .leaf (t x) ∧ me E' = .leaf (f x)) : mLc mi vs g mt me E = .leaf ((L.filter t).map f) := by
  unfold mLc
  rw [hi, bind_leaf, lineOk_s _ _ (by rw [List.length_map]; exact hl), lc_filter L h]
theorem opIx_t {ds : List D} {k : Nat} (hk : k < ds.length) : opIx (.tup ds) (.int (k : Int)) = .leaf (ds.getD k .non) := by
  have e : atI ds (k : Int) = some ds[k] := by
    unfold atI ixN
    rw [if_pos (by omega), if_pos (by omega)]
    simp [hk]
  show ixO _ _ _ = _
  unfold ixO
  rw [e]
  simp [hk]
end R
namespace Law
open R PySem L2
local macro_rules | `(tactic| walk_at "ev") => `(tactic| simp only [mDef, En.start, oSeq, oIf, oRet, oSet, oOwn, putOwn_z, putOwn_s, oPar, oNx, oFail, oEx, m2, m1, mA, aCons, aNil, mB, mC, mCh, mT, mNot, mAnd, mOr, mAndV, mOrV, mNotV, mIf, mTup, mLst, mList, asB_b, allS_leaf, wipe_n, wipe_c, wset_z, wset_s, tYesM, oAsg, gPut, gTp, gsCons, gsNil, mSeq, seq_l, seq_t, bind_leaf, bind_fail, lineOk_1, lineOk_2, lineOk_3, mPeek_z, mPeek_s, mVar_z, mVar_s, put_z, put_s, opAdd_i, opSub_i, opNeg_i, cLt_i, cLe_i, cGt_i, cGe_i, cEq_i, cNe_i, fAbs_i, fInt_i, fLen_t, fLen_l, ix0, ix1, Bool.false_eq_true, Bool.not_true, Bool.not_false,
  List.length_cons, List.length_nil, List.map_cons, List.map_nil, List.cons_append, List.nil_append, List.replicate, Nat.reduceAdd, Nat.reduceSub, Nat.zero_add, if_true, if_false, ↓reduceIte])

theorem lot_at {P : List Rat} {k : Nat} (hk : k < P.length) : opIx (lotD P) (.int (k : Int)) = .leaf (fr (P.getD k 0)) := by
  unfold lotD
  rw [opIx_t (by rw [List.length_map]; exact hk)]
  simp [hk]
def shows (P Q : List Rat) : List Nat := (List.range P.length).filter fun i => decide (Q.getD i 0 < P.getD i 0)
theorem getD_mem {P : List Rat} {k : Nat} (hk : k < P.length) : P.getD k 0 ∈ P := by
  have : P.getD k 0 = P[k] := by simp [hk]
  rw [this]
  exact List.getElem_mem hk
end Law

set_option maxRecDepth 100000
set_option linter.all false
namespace Law
open R PySem L2
local macro_rules | `(tactic| walk_at "ev") => `(tactic| simp only [mDef, En.start, oSeq, oIf, oRet, oSet, oOwn, putOwn_z, putOwn_s, oPar, oNx, oFail, oEx, m2, m1, mA, aCons, aNil, mB, mC, mCh, mT, mNot, mAnd, mOr, mAndV, mOrV, mNotV, mIf, mTup, mLst, mList, asB_b, allS_leaf, wipe_n, wipe_c, wset_z, wset_s, tYesM, oAsg, gPut, gTp, gsCons, gsNil, mSeq, seq_l, seq_t, bind_leaf, bind_fail, lineOk_1, lineOk_2, lineOk_3, mPeek_z, mPeek_s, mVar_z, mVar_s, put_z, put_s, opAdd_i, opSub_i, opNeg_i, cLt_i, cLe_i, cGt_i, cGe_i, cEq_i, cNe_i, fAbs_i, fInt_i, fLen_t, fLen_l, ix0, ix1, Bool.false_eq_true, Bool.not_true, Bool.not_false,
  List.length_cons, List.length_nil, List.map_cons, List.map_nil, List.cons_append, List.nil_append, List.replicate, Nat.reduceAdd, Nat.reduceSub, Nat.zero_add, if_true, if_false, ↓reduceIte])

theorem enum_range {f : Nat → D} : ∀ (m k : Nat), enumD k ((List.range' k m).map f) = (List.range' k m).map fun j => .tup [.int (j : Int), f j]
  | 0, k => rfl
  | m + 1, k => by
    rw [List.range'_succ, List.map_cons, List.map_cons]
    unfold enumD
    rw [enum_range m (k + 1)]
theorem range_getD (t : List Rat) : (List.range t.length).map (fun j => t.getD j 0) = t := by
  apply List.ext_getElem
  · simp
  · intro i h1 h2
    rw [List.getElem_map, List.getElem_range, List.getD_eq_getElem?_getD, List.getElem?_eq_getElem h2]
    rfl
theorem enum_lot (L : List Rat) : enumD 0 (L.map fr) = (List.range L.length).map fun j => .tup [.int (j : Int), fr (L.getD j 0)] := by
  have e : L.map fr = (List.range L.length).map fun j => fr (L.getD j 0) := by
    conv => lhs; rw [← range_getD L, List.map_map]
    rfl
  rw [e, List.range_eq_range', enum_range]
theorem lot_ix {t : List Rat} {j : Nat} (h : j < t.length) : opIx (lotD t) (.int (j : Int)) = .leaf (fr (t.getD j 0)) := by
  have e : atI (t.map fr) (j : Int) = some (fr (t.getD j 0)) := by
    unfold atI ixN
    rw [if_pos (by omega), if_pos (by rw [List.length_map]; omega)]
    simp [h, List.getD_eq_getElem?_getD]
  show ixO (t.map fr) (j : Int) .leaf = _
  unfold ixO
  rw [e]
/-! ### support -/
def suppL (L : List Rat) : List D := ((List.range L.length).filter fun j => !((L.getD j 0).num == 0)).map fun j : Nat => D.int (j : Int)
theorem suppof_fr {L : List Rat} (h : LotQ L) : f_support_of [lotD L] = .leaf (.lst (suppL L)) := by
  have c1 : mLc (mEnum (mPeek 0)) [1, 2] (gTp 2 (gsCons (gPut 1) (gsCons (gPut 2) gsNil))) (mC cGt (m2 opIx (mPeek 2) (fun _ => .leaf (.int 0))) (fun _ => .leaf (.int 0))) (mVar 1) [some ⟨false, lotD L⟩, none, none] = .leaf (suppL L) := by
    refine mLc_filter (L := List.range L.length) (dx := fun j : Nat => .tup [.int (j : Int), fr (L.getD j 0)]) (f := fun j : Nat => D.int (j : Int)) (t := fun j => !((L.getD j 0).num == 0)) ?_ (by rw [List.length_range]; have := h.l8; omega) fun j hj => ⟨[some ⟨false, lotD L⟩, some ⟨false, .int (j : Int)⟩, some ⟨false, fr (L.getD j 0)⟩], by walk_at "ev", ?_, rfl⟩
    · unfold mEnum lotD
      simp only [mDef, En.start, oSeq, oIf, oRet, oSet, oOwn, putOwn_z, putOwn_s, oPar, oNx, oFail, oEx, _root_.R.m2, _root_.R.m1, _root_.R.mA, aCons, aNil, _root_.R.mB, _root_.R.mC, mCh, _root_.R.mT, mNot, mAnd, mOr, mAndV, mOrV, mNotV, mIf, mTup, mLst, mList, asB_b, allS_leaf, wipe_n, wipe_c, wset_z, wset_s, tYesM, oAsg, gPut, gTp, gsCons, gsNil, mSeq, seq_l, seq_t, bind_leaf, bind_fail, lineOk_1, lineOk_2, lineOk_3, mPeek_z, mPeek_s, mVar_z, mVar_s, put_z, put_s, opAdd_i, opSub_i, opNeg_i, cLt_i, cLe_i, cGt_i, cGe_i, cEq_i, cNe_i, fAbs_i, fInt_i, fLen_t, fLen_l, ix0, ix1, Bool.false_eq_true, Bool.not_true, Bool.not_false, List.length_cons, List.length_nil, List.map_cons, List.map_nil, List.cons_append, List.nil_append, List.replicate, Nat.reduceAdd, Nat.reduceSub, Nat.zero_add, if_true, if_false, ↓reduceIte]
      rw [enum_lot]
    · have hj := List.mem_range.mp hj
      have hn : 0 ≤ (L.getD j 0).num := by
        rw [List.getD_eq_getElem?_getD, List.getElem?_eq_getElem hj]
        exact Rat.num_nonneg.mpr (h.nn _ (List.getElem_mem hj))
      unfold fr
      simp only [mDef, En.start, oSeq, oIf, oRet, oSet, oOwn, putOwn_z, putOwn_s, oPar, oNx, oFail, oEx, _root_.R.m2, _root_.R.m1, _root_.R.mA, aCons, aNil, _root_.R.mB, _root_.R.mC, mCh, _root_.R.mT, mNot, mAnd, mOr, mAndV, mOrV, mNotV, mIf, mTup, mLst, mList, asB_b, allS_leaf, wipe_n, wipe_c, wset_z, wset_s, tYesM, oAsg, gPut, gTp, gsCons, gsNil, mSeq, seq_l, seq_t, bind_leaf, bind_fail, lineOk_1, lineOk_2, lineOk_3, mPeek_z, mPeek_s, mVar_z, mVar_s, put_z, put_s, opAdd_i, opSub_i, opNeg_i, cLt_i, cLe_i, cGt_i, cGe_i, cEq_i, cNe_i, fAbs_i, fInt_i, fLen_t, fLen_l, ix0, ix1, Bool.false_eq_true, Bool.not_true, Bool.not_false, List.length_cons, List.length_nil, List.map_cons, List.map_nil, List.cons_append, List.nil_append, List.replicate, Nat.reduceAdd, Nat.reduceSub, Nat.zero_add, if_true, if_false, ↓reduceIte]
      congr 1
      rw [Bool.eq_iff_iff, decide_eq_true_eq, Bool.not_eq_true', beq_eq_false_iff_ne]
      omega
  unfold f_support_of b_support_of mDefN
  generalize mLc = ml at *
  generalize suppL L = sl at *
  simp only [mDef, En.start, oSeq, oIf, oRet, oSet, oOwn, putOwn_z, putOwn_s, oPar, oNx, oFail, oEx, _root_.R.m2, _root_.R.m1, _root_.R.mA, aCons, aNil, _root_.R.mB, _root_.R.mC, mCh, _root_.R.mT, mNot, mAnd, mOr, mAndV, mOrV, mNotV, mIf, mTup, mLst, mList, asB_b, allS_leaf, wipe_n, wipe_c, wset_z, wset_s, tYesM, oAsg, gPut, gTp, gsCons, gsNil, mSeq, seq_l, seq_t, bind_leaf, bind_fail, lineOk_1, lineOk_2, lineOk_3, mPeek_z, mPeek_s, mVar_z, mVar_s, put_z, put_s, opAdd_i, opSub_i, opNeg_i, cLt_i, cLe_i, cGt_i, cGe_i, cEq_i, cNe_i, fAbs_i, fInt_i, fLen_t, fLen_l, ix0, ix1, Bool.false_eq_true, Bool.not_true, Bool.not_false, List.length_cons, List.length_nil, List.map_cons, List.map_nil, List.cons_append, List.nil_append, List.replicate, Nat.reduceAdd, Nat.reduceSub, Nat.zero_add, if_true, if_false, ↓reduceIte, c1]
theorem supp_fr {L : List Rat} (h : LotQ L) : f_support [lotD L] = .leaf (.lst (suppL L)) := by
  have k1 := checklot_fr h
  have k2 := suppof_fr h
  unfold f_support b_support mDefN oSeqN
  generalize f_check_lot = f1 at *
  generalize f_support_of = f2 at *
  generalize D.lst (suppL L) = z at *
  simp only [mDef, En.start, oSeq, oIf, oRet, oSet, oOwn, putOwn_z, putOwn_s, oPar, oNx, oFail, oEx, _root_.R.m2, _root_.R.m1, _root_.R.mA, aCons, aNil, _root_.R.mB, _root_.R.mC, mCh, _root_.R.mT, mNot, mAnd, mOr, mAndV, mOrV, mNotV, mIf, mTup, mLst, mList, asB_b, allS_leaf, wipe_n, wipe_c, wset_z, wset_s, tYesM, oAsg, gPut, gTp, gsCons, gsNil, mSeq, seq_l, seq_t, bind_leaf, bind_fail, lineOk_1, lineOk_2, lineOk_3, mPeek_z, mPeek_s, mVar_z, mVar_s, put_z, put_s, opAdd_i, opSub_i, opNeg_i, cLt_i, cLe_i, cGt_i, cGe_i, cEq_i, cNe_i, fAbs_i, fInt_i, fLen_t, fLen_l, ix0, ix1, Bool.false_eq_true, Bool.not_true, Bool.not_false, List.length_cons, List.length_nil, List.map_cons, List.map_nil, List.cons_append, List.nil_append, List.replicate, Nat.reduceAdd, Nat.reduceSub, Nat.zero_add, if_true, if_false, ↓reduceIte, k1, k2]
end Law

set_option maxRecDepth 100000
set_option linter.all false
namespace Law
open R PySem L2
local macro_rules | `(tactic| walk_at "ev") => `(tactic| simp only [mDef, En.start, oSeq, oIf, oRet, oSet, oOwn, putOwn_z, putOwn_s, oPar, oNx, oFail, oEx, m2, m1, mA, aCons, aNil, mB, mC, mCh, mT, mNot, mAnd, mOr, mAndV, mOrV, mNotV, mIf, mTup, mLst, mList, asB_b, allS_leaf, wipe_n, wipe_c, wset_z, wset_s, tYesM, oAsg, gPut, gTp, gsCons, gsNil, mSeq, seq_l, seq_t, bind_leaf, bind_fail, lineOk_1, lineOk_2, lineOk_3, mPeek_z, mPeek_s, mVar_z, mVar_s, put_z, put_s, opAdd_i, opSub_i, opNeg_i, cLt_i, cLe_i, cGt_i, cGe_i, cEq_i, cNe_i, fAbs_i, fInt_i, fLen_t, fLen_l, ix0, ix1, Bool.false_eq_true, Bool.not_true, Bool.not_false,
  List.length_cons, List.length_nil, List.map_cons, List.map_nil, List.cons_append, List.nil_append, List.replicate, Nat.reduceAdd, Nat.reduceSub, Nat.zero_add, if_true, if_false, ↓reduceIte])

/-- a list or tuple of distinct places -/
structure PlD (d : D) (S : List Nat) (m : Nat) : Prop where
  sq : seqOf d = .leaf (iL S)
  isl : fIsi [d, .tup [.ty "list", .ty "tuple"]] = .leaf (.bl true)
  ln : fLen [d] = .leaf (.int (S.length : Int))
  ls : fLenSet2 d = .leaf (.int (S.length : Int))
  lt : ∀ i ∈ S, i < m
  l8 : S.length ≤ 8
def hasR (P : List Rat) (S : List Nat) : Rat := (S.map fun i => P.getD i 0).sum
theorem hasof_fr {P : List Rat} {d : D} {S : List Nat} (hP : LotQ P) (h : PlD d S P.length) : f_has_of [lotD P, d] = .leaf (fr (hasR P S)) := by
  have l8 := h.l8
  have hc : mLc (mSeq (mPeek 1)) [2] (gPut 2) tYesM (m2 opIx (mPeek 0) (mPeek 2)) [some ⟨false, lotD P⟩, some ⟨false, d⟩, none] = .leaf (S.map fun i => fr (P.getD i 0)) := by
    refine mLc_at (L := S) (dx := fun i : Nat => .int (i : Int)) ?_ (by omega) fun i hi => ⟨[some ⟨false, lotD P⟩, some ⟨false, d⟩, some ⟨false, .int (i : Int)⟩], by walk_at "ev", rfl, ?_⟩
    · have k := h.sq
      unfold iL at k
      show (mPeek 1 [some ⟨false, lotD P⟩, some ⟨false, d⟩, none]).bind seqOf = _
      rw [mPeek_s, mPeek_z, bind_leaf, k]
    · have k := lot_at (P := P) (h.lt i hi)
      generalize (i : Int) = I at *
      generalize opIx = oi at *
      walk_at "ev"
      rw [k]
  have ht := total_l (n := 40) (S.map fun i => P.getD i 0) (fun q hq => by
    obtain ⟨i, hi, rfl⟩ := List.mem_map.mp hq
    exact sh_sz (hP.sh _ (getD_mem (h.lt i hi)))) (by rw [List.length_map]; omega) (by omega)
  rw [List.map_map] at ht
  rw [show (fr ∘ fun i => P.getD i 0) = fun i => fr (P.getD i 0) from rfl] at ht
  unfold f_has_of b_has_of hasR
  generalize (S.map fun i => fr (P.getD i 0)) = z at *
  generalize f_total = ft at *
  generalize mLc = ml at *
  walk_at "ev"
  rw [hc]
  walk_at "ev"
  rw [ht]
  walk_at "ev"
end Law

set_option maxRecDepth 100000
set_option linter.all false
namespace Law
open R PySem L2
local macro_rules | `(tactic| walk_at "ev") => `(tactic| simp only [mDef, En.start, oSeq, oIf, oRet, oSet, oOwn, putOwn_z, putOwn_s, oPar, oNx, oFail, oEx, m2, m1, mA, aCons, aNil, mB, mC, mCh, mT, mNot, mAnd, mOr, mAndV, mOrV, mNotV, mIf, mTup, mLst, mList, asB_b, allS_leaf, wipe_n, wipe_c, wset_z, wset_s, tYesM, oAsg, gPut, gTp, gsCons, gsNil, mSeq, seq_l, seq_t, bind_leaf, bind_fail, lineOk_1, lineOk_2, lineOk_3, mPeek_z, mPeek_s, mVar_z, mVar_s, put_z, put_s, opAdd_i, opSub_i, opNeg_i, cLt_i, cLe_i, cGt_i, cGe_i, cEq_i, cNe_i, fAbs_i, fInt_i, fLen_t, fLen_l, ix0, ix1, Bool.false_eq_true, Bool.not_true, Bool.not_false,
  List.length_cons, List.length_nil, List.map_cons, List.map_nil, List.cons_append, List.nil_append, List.replicate, Nat.reduceAdd, Nat.reduceSub, Nat.zero_add, if_true, if_false, ↓reduceIte])

theorem within_eq {x m : Int} (h0 : 0 ≤ x) (h1 : x ≤ m) : f_is_within [.int x, .int 0, .int m] = .leaf (.bl true) := by
  have k := isint_eq x
  unfold f_is_within b_is_within
  generalize f_is_integer = fi at *
  walk_at "ev"
  rw [k]
  walk_at "ev"
  rw [decide_eq_true h0]
  walk_at "ev"
  rw [decide_eq_true h1]
theorem places_eq {d : D} {S : List Nat} {m : Nat} (h : PlD d S m) : f_check_places [.int (m : Int), d] = .leaf .non := by
  have l8 := h.l8
  have hi : f_is_list [d] = .leaf (.bl true) := by
    have k := h.isl
    unfold f_is_list b_is_list
    generalize fIsi = fi at *
    walk_at "ev"
    rw [k]
    walk_at "ev"
  have hc : mLc (mSeq (mPeek 1)) [2] (gPut 2) tYesM (mA f_is_within (aCons (mVar 2) (aCons (fun _ => .leaf (.int 0)) (aCons (m2 opSub (mPeek 0) (fun _ => .leaf (.int 1))) aNil)))) [some ⟨false, .int (m : Int)⟩, some ⟨false, d⟩, none] = .leaf (S.map fun _ => .bl true) := by
    refine mLc_at (L := S) (dx := fun i : Nat => .int (i : Int)) ?_ (by omega) fun i hi => ⟨[some ⟨false, .int (m : Int)⟩, some ⟨false, d⟩, some ⟨false, .int (i : Int)⟩], by walk_at "ev", rfl, ?_⟩
    · have k := h.sq
      unfold iL at k
      show (mPeek 1 [some ⟨false, .int (m : Int)⟩, some ⟨false, d⟩, none]).bind seqOf = _
      rw [mPeek_s, mPeek_z, bind_leaf, k]
    · have k := within_eq (x := (i : Int)) (m := (m : Int) - 1) (by omega) (by have := h.lt i hi; omega)
      generalize (i : Int) = I at *
      generalize (m : Int) = M at *
      generalize f_is_within = fi at *
      walk_at "ev"
      rw [k]
  have ha := all_true S
  have hs := h.ls
  have hl := h.ln
  have he := cEq_i (S.length : Int) S.length
  rw [show ((S.length : Int) == S.length) = true by simp] at he
  have hp : f_are_places [.int (m : Int), d] = .leaf (.bl true) := by
    unfold f_are_places b_are_places
    clear h l8
    generalize (S.map fun _ => D.bl true) = z at *
    generalize (S.length : Int) = n at *
    generalize (m : Int) = M at *
    generalize f_is_list = f1 at *
    generalize fAll = f2 at *
    generalize fLenSet2 = f3 at *
    generalize fLen = f4 at *
    generalize cEq = f5 at *
    generalize mLc = ml at *
    walk_at "ev"
    rw [hi]
    walk_at "ev"
    rw [hc]
    walk_at "ev"
    rw [ha]
    walk_at "ev"
    rw [hs]
    walk_at "ev"
    rw [hl]
    walk_at "ev"
    rw [he]
    walk_at "ev"
  unfold f_check_places b_check_places
  generalize f_are_places = f1 at *
  walk_at "ev"
  rw [hp]
  walk_at "ev"
end Law

set_option maxRecDepth 100000
set_option linter.all false
namespace Law
open R PySem L2
local macro_rules | `(tactic| walk_at "ev") => `(tactic| simp only [mDef, En.start, oSeq, oIf, oRet, oSet, oOwn, putOwn_z, putOwn_s, oPar, oNx, oFail, oEx, m2, m1, mA, aCons, aNil, mB, mC, mCh, mT, mNot, mAnd, mOr, mAndV, mOrV, mNotV, mIf, mTup, mLst, mList, asB_b, allS_leaf, wipe_n, wipe_c, wset_z, wset_s, tYesM, oAsg, gPut, gTp, gsCons, gsNil, mSeq, seq_l, seq_t, bind_leaf, bind_fail, lineOk_1, lineOk_2, lineOk_3, mPeek_z, mPeek_s, mVar_z, mVar_s, put_z, put_s, opAdd_i, opSub_i, opNeg_i, cLt_i, cLe_i, cGt_i, cGe_i, cEq_i, cNe_i, fAbs_i, fInt_i, fLen_t, fLen_l, ix0, ix1, Bool.false_eq_true, Bool.not_true, Bool.not_false,
  List.length_cons, List.length_nil, List.map_cons, List.map_nil, List.cons_append, List.nil_append, List.replicate, Nat.reduceAdd, Nat.reduceSub, Nat.zero_add, if_true, if_false, ↓reduceIte])

theorem has_fr {P : List Rat} {d : D} {S : List Nat} (hP : LotQ P) (h : PlD d S P.length) : f_has [lotD P, d] = .leaf (fr (hasR P S)) := by
  have k1 := checklot_fr hP
  have k2 := len_lot P
  have k3 := places_eq h
  have k4 := hasof_fr hP h
  unfold f_has b_has
  generalize lotD P = v at *
  generalize (P.length : Int) = n at *
  generalize f_check_lot = f1 at *
  generalize f_check_places = f2 at *
  generalize f_has_of = f3 at *
  generalize fLen = f4 at *
  simp only [mDef, En.start, oSeq, oIf, oRet, oSet, oOwn, putOwn_z, putOwn_s, oPar, oNx, oFail, oEx, _root_.R.m2, _root_.R.m1, _root_.R.mA, aCons, aNil, _root_.R.mB, _root_.R.mC, mCh, _root_.R.mT, mNot, mAnd, mOr, mAndV, mOrV, mNotV, mIf, mTup, mLst, mList, asB_b, allS_leaf, wipe_n, wipe_c, wset_z, wset_s, tYesM, oAsg, gPut, gTp, gsCons, gsNil, mSeq, seq_l, seq_t, bind_leaf, bind_fail, lineOk_1, lineOk_2, lineOk_3, mPeek_z, mPeek_s, mVar_z, mVar_s, put_z, put_s, opAdd_i, opSub_i, opNeg_i, cLt_i, cLe_i, cGt_i, cGe_i, cEq_i, cNe_i, fAbs_i, fInt_i, fLen_t, fLen_l, ix0, ix1, Bool.false_eq_true, Bool.not_true, Bool.not_false, List.length_cons, List.length_nil, List.map_cons, List.map_nil, List.cons_append, List.nil_append, List.replicate, Nat.reduceAdd, Nat.reduceSub, Nat.zero_add, if_true, if_false, ↓reduceIte, k1, k2, k3, k4]
theorem mean_fr {P W : List Rat} {y : D} {n2 : Nat} (hP : LotQ P) (sy : seqOf y = .leaf (W.map fr)) (hW : ∀ q ∈ W, Sz n2 q) (hb : n2 ≤ 400) (hc : f_check_worths [.int (P.length : Int), y] = .leaf .non) : f_mean [lotD P, y] = .leaf (fr (dotR P W)) := by
  have k1 := checklot_fr hP
  have k2 := len_lot P
  have k4 : f_mean_of [lotD P, y] = .leaf (fr (dotR P W)) := by
    have k := psum_fr (x := lotD P) (y := y) (P := P) (Q := W) (n1 := 40) (n2 := n2) (seq_t _) sy (fun q hq => sh_sz (hP.sh q hq)) hW hP.l8 (by omega)
    unfold f_mean_of b_mean_of
    generalize f_products_sum = fp at *
    simp only [mDef, En.start, oSeq, oIf, oRet, oSet, oOwn, putOwn_z, putOwn_s, oPar, oNx, oFail, oEx, _root_.R.m2, _root_.R.m1, _root_.R.mA, aCons, aNil, _root_.R.mB, _root_.R.mC, mCh, _root_.R.mT, mNot, mAnd, mOr, mAndV, mOrV, mNotV, mIf, mTup, mLst, mList, asB_b, allS_leaf, wipe_n, wipe_c, wset_z, wset_s, tYesM, oAsg, gPut, gTp, gsCons, gsNil, mSeq, seq_l, seq_t, bind_leaf, bind_fail, lineOk_1, lineOk_2, lineOk_3, mPeek_z, mPeek_s, mVar_z, mVar_s, put_z, put_s, opAdd_i, opSub_i, opNeg_i, cLt_i, cLe_i, cGt_i, cGe_i, cEq_i, cNe_i, fAbs_i, fInt_i, fLen_t, fLen_l, ix0, ix1, Bool.false_eq_true, Bool.not_true, Bool.not_false, List.length_cons, List.length_nil, List.map_cons, List.map_nil, List.cons_append, List.nil_append, List.replicate, Nat.reduceAdd, Nat.reduceSub, Nat.zero_add, if_true, if_false, ↓reduceIte, k]
  unfold f_mean b_mean
  generalize lotD P = v at *
  generalize (P.length : Int) = n at *
  generalize f_check_lot = f1 at *
  generalize f_check_worths = f2 at *
  generalize f_mean_of = f3 at *
  generalize fLen = f4 at *
  simp only [mDef, En.start, oSeq, oIf, oRet, oSet, oOwn, putOwn_z, putOwn_s, oPar, oNx, oFail, oEx, _root_.R.m2, _root_.R.m1, _root_.R.mA, aCons, aNil, _root_.R.mB, _root_.R.mC, mCh, _root_.R.mT, mNot, mAnd, mOr, mAndV, mOrV, mNotV, mIf, mTup, mLst, mList, asB_b, allS_leaf, wipe_n, wipe_c, wset_z, wset_s, tYesM, oAsg, gPut, gTp, gsCons, gsNil, mSeq, seq_l, seq_t, bind_leaf, bind_fail, lineOk_1, lineOk_2, lineOk_3, mPeek_z, mPeek_s, mVar_z, mVar_s, put_z, put_s, opAdd_i, opSub_i, opNeg_i, cLt_i, cLe_i, cGt_i, cGe_i, cEq_i, cNe_i, fAbs_i, fInt_i, fLen_t, fLen_l, ix0, ix1, Bool.false_eq_true, Bool.not_true, Bool.not_false, List.length_cons, List.length_nil, List.map_cons, List.map_nil, List.cons_append, List.nil_append, List.replicate, Nat.reduceAdd, Nat.reduceSub, Nat.zero_add, if_true, if_false, ↓reduceIte, k1, k2, hc, k4]
end Law

set_option maxRecDepth 100000
set_option linter.all false
namespace Law
open R PySem L2
local macro_rules | `(tactic| walk_at "ev") => `(tactic| simp only [mDef, En.start, oSeq, oIf, oRet, oSet, oOwn, putOwn_z, putOwn_s, oPar, oNx, oFail, oEx, m2, m1, mA, aCons, aNil, mB, mC, mCh, mT, mNot, mAnd, mOr, mAndV, mOrV, mNotV, mIf, mTup, mLst, mList, asB_b, allS_leaf, wipe_n, wipe_c, wset_z, wset_s, tYesM, oAsg, gPut, gTp, gsCons, gsNil, mSeq, seq_l, seq_t, bind_leaf, bind_fail, lineOk_1, lineOk_2, lineOk_3, mPeek_z, mPeek_s, mVar_z, mVar_s, put_z, put_s, opAdd_i, opSub_i, opNeg_i, cLt_i, cLe_i, cGt_i, cGe_i, cEq_i, cNe_i, fAbs_i, fInt_i, fLen_t, fLen_l, ix0, ix1, Bool.false_eq_true, Bool.not_true, Bool.not_false,
  List.length_cons, List.length_nil, List.map_cons, List.map_nil, List.cons_append, List.nil_append, List.replicate, Nat.reduceAdd, Nat.reduceSub, Nat.zero_add, if_true, if_false, ↓reduceIte])

theorem spread_fr {P W : List Rat} {y : D} (hP : LotQ P) (sy : seqOf y = .leaf (W.map fr)) (hW : ∀ q ∈ W, Sz 20 q) (hl : W.length ≤ 8) (hc : f_check_worths [.int (P.length : Int), y] = .leaf .non) : f_spread [lotD P, y] = .leaf (fr (z2 (P.zip W) - z1 (P.zip W) * z1 (P.zip W))) := by
  have k1 := checklot_fr hP
  have k2 := len_lot P
  have hP40 : ∀ q ∈ P, Sz 40 q := fun q hq => sh_sz (hP.sh q hq)
  have hW2 : ∀ q ∈ W.map (fun w => w * w), Sz 40 q := fun q hq => by
    obtain ⟨w, hw, rfl⟩ := List.mem_map.mp hq
    exact sz_mul (hW w hw) (hW w hw)
  have mo : ∀ (z : D) (V : List Rat), seqOf z = .leaf (V.map fr) → (∀ q ∈ V, Sz 40 q) → f_mean_of [lotD P, z] = .leaf (fr (dotR P V)) := fun z V sz hV => by
    have k := psum_fr (x := lotD P) (y := z) (P := P) (Q := V) (n1 := 40) (n2 := 40) (seq_t _) sz hP40 hV hP.l8 (by omega)
    unfold f_mean_of b_mean_of
    generalize f_products_sum = fp at *
    simp only [mDef, En.start, oSeq, oIf, oRet, oSet, oOwn, putOwn_z, putOwn_s, oPar, oNx, oFail, oEx, _root_.R.m2, _root_.R.m1, _root_.R.mA, aCons, aNil, _root_.R.mB, _root_.R.mC, mCh, _root_.R.mT, mNot, mAnd, mOr, mAndV, mOrV, mNotV, mIf, mTup, mLst, mList, asB_b, allS_leaf, wipe_n, wipe_c, wset_z, wset_s, tYesM, oAsg, gPut, gTp, gsCons, gsNil, mSeq, seq_l, seq_t, bind_leaf, bind_fail, lineOk_1, lineOk_2, lineOk_3, mPeek_z, mPeek_s, mVar_z, mVar_s, put_z, put_s, opAdd_i, opSub_i, opNeg_i, cLt_i, cLe_i, cGt_i, cGe_i, cEq_i, cNe_i, fAbs_i, fInt_i, fLen_t, fLen_l, ix0, ix1, Bool.false_eq_true, Bool.not_true, Bool.not_false, List.length_cons, List.length_nil, List.map_cons, List.map_nil, List.cons_append, List.nil_append, List.replicate, Nat.reduceAdd, Nat.reduceSub, Nat.zero_add, if_true, if_false, ↓reduceIte, k]
  have m1 := mo y W sy fun q hq => (hW q hq).mono (by omega)
  have m2 := mo (.lst (W.map fun w => fr (w * w))) (W.map fun w => w * w) (by rw [List.map_map]; exact seq_l _) hW2
  have e1 : dotR P W = z1 (P.zip W) := rfl
  have e2 : dotR P (W.map fun w => w * w) = z2 (P.zip W) := by
    unfold dotR z2
    rw [List.zip_map_right, List.map_map]
    rfl
  have dsz : ∀ V : List Rat, (∀ q ∈ V, Sz 40 q) → Sz 700 (dotR P V) := fun V hV => by
    refine (sum_sz (n := 80) (by omega) _ (dot_sz hP40 hV)).mono ?_
    rw [List.length_map]
    have := zip_len (Q := V) hP.l8
    omega
  have s1 := dsz W fun q hq => (hW q hq).mono (by omega)
  have s2 := dsz _ hW2
  have mm := multiply_fr (s1.mono (m := 4000) (by omega)) (s1.mono (m := 4000) (by omega))
  have tk := take_fr (s2.mono (m := 4000) (by omega)) ((sz_mul s1 s1).mono (m := 4000) (by omega))
  rw [e1] at m1 mm
  rw [e1, e2] at tk
  rw [e2] at m2
  have c1 : mLc (mSeq (mPeek 1)) [3] (gPut 3) tYesM (mA f_multiply (aCons (mVar 3) (aCons (mVar 3) aNil))) [some ⟨false, lotD P⟩, some ⟨false, y⟩, some ⟨false, fr (z1 (P.zip W))⟩, none] = .leaf (W.map fun w => fr (w * w)) := by
    refine mLc_at (L := W) (dx := fr) (by simp only [mDef, En.start, oSeq, oIf, oRet, oSet, oOwn, putOwn_z, putOwn_s, oPar, oNx, oFail, oEx, _root_.R.m2, _root_.R.m1, _root_.R.mA, aCons, aNil, _root_.R.mB, _root_.R.mC, mCh, _root_.R.mT, mNot, mAnd, mOr, mAndV, mOrV, mNotV, mIf, mTup, mLst, mList, asB_b, allS_leaf, wipe_n, wipe_c, wset_z, wset_s, tYesM, oAsg, gPut, gTp, gsCons, gsNil, mSeq, seq_l, seq_t, bind_leaf, bind_fail, lineOk_1, lineOk_2, lineOk_3, mPeek_z, mPeek_s, mVar_z, mVar_s, put_z, put_s, opAdd_i, opSub_i, opNeg_i, cLt_i, cLe_i, cGt_i, cGe_i, cEq_i, cNe_i, fAbs_i, fInt_i, fLen_t, fLen_l, ix0, ix1, Bool.false_eq_true, Bool.not_true, Bool.not_false, List.length_cons, List.length_nil, List.map_cons, List.map_nil, List.cons_append, List.nil_append, List.replicate, Nat.reduceAdd, Nat.reduceSub, Nat.zero_add, if_true, if_false, ↓reduceIte, sy]) (by omega) fun w hw => ⟨[some ⟨false, lotD P⟩, some ⟨false, y⟩, some ⟨false, fr (z1 (P.zip W))⟩, some ⟨false, fr w⟩], by walk_at "ev", rfl, ?_⟩
    have k := multiply_fr ((hW w hw).mono (m := 4000) (by omega)) ((hW w hw).mono (m := 4000) (by omega))
    generalize f_multiply = fm at *
    simp only [mDef, En.start, oSeq, oIf, oRet, oSet, oOwn, putOwn_z, putOwn_s, oPar, oNx, oFail, oEx, _root_.R.m2, _root_.R.m1, _root_.R.mA, aCons, aNil, _root_.R.mB, _root_.R.mC, mCh, _root_.R.mT, mNot, mAnd, mOr, mAndV, mOrV, mNotV, mIf, mTup, mLst, mList, asB_b, allS_leaf, wipe_n, wipe_c, wset_z, wset_s, tYesM, oAsg, gPut, gTp, gsCons, gsNil, mSeq, seq_l, seq_t, bind_leaf, bind_fail, lineOk_1, lineOk_2, lineOk_3, mPeek_z, mPeek_s, mVar_z, mVar_s, put_z, put_s, opAdd_i, opSub_i, opNeg_i, cLt_i, cLe_i, cGt_i, cGe_i, cEq_i, cNe_i, fAbs_i, fInt_i, fLen_t, fLen_l, ix0, ix1, Bool.false_eq_true, Bool.not_true, Bool.not_false, List.length_cons, List.length_nil, List.map_cons, List.map_nil, List.cons_append, List.nil_append, List.replicate, Nat.reduceAdd, Nat.reduceSub, Nat.zero_add, if_true, if_false, ↓reduceIte, k]
  clear mo dsz hP40 hW2 s1 s2 hP hW
  unfold f_spread b_spread
  generalize fr (z2 (P.zip W) - z1 (P.zip W) * z1 (P.zip W)) = r at *
  generalize fr (z1 (P.zip W) * z1 (P.zip W)) = r1 at *
  generalize fr (z1 (P.zip W)) = r0 at *
  generalize fr (z2 (P.zip W)) = r2 at *
  generalize (W.map fun w => fr (w * w)) = ws at *
  generalize lotD P = v at *
  generalize (P.length : Int) = n at *
  generalize f_check_lot = f1 at *
  generalize f_check_worths = f2 at *
  generalize f_mean_of = f3 at *
  generalize f_multiply = f4 at *
  generalize f_take = f5 at *
  generalize fLen = f6 at *
  generalize mLc = ml at *
  simp only [mDef, En.start, oSeq, oIf, oRet, oSet, oOwn, putOwn_z, putOwn_s, oPar, oNx, oFail, oEx, _root_.R.m2, _root_.R.m1, _root_.R.mA, aCons, aNil, _root_.R.mB, _root_.R.mC, mCh, _root_.R.mT, mNot, mAnd, mOr, mAndV, mOrV, mNotV, mIf, mTup, mLst, mList, asB_b, allS_leaf, wipe_n, wipe_c, wset_z, wset_s, tYesM, oAsg, gPut, gTp, gsCons, gsNil, mSeq, seq_l, seq_t, bind_leaf, bind_fail, lineOk_1, lineOk_2, lineOk_3, mPeek_z, mPeek_s, mVar_z, mVar_s, put_z, put_s, opAdd_i, opSub_i, opNeg_i, cLt_i, cLe_i, cGt_i, cGe_i, cEq_i, cNe_i, fAbs_i, fInt_i, fLen_t, fLen_l, ix0, ix1, Bool.false_eq_true, Bool.not_true, Bool.not_false, List.length_cons, List.length_nil, List.map_cons, List.map_nil, List.cons_append, List.nil_append, List.replicate, Nat.reduceAdd, Nat.reduceSub, Nat.zero_add, if_true, if_false, ↓reduceIte, k1, k2, hc, m1, c1, m2, mm, tk]
end Law

set_option maxRecDepth 100000
set_option linter.all false
namespace Law
open R PySem L2
local macro_rules | `(tactic| walk_at "ev") => `(tactic| simp only [mDef, En.start, oSeq, oIf, oRet, oSet, oOwn, putOwn_z, putOwn_s, oPar, oNx, oFail, oEx, m2, m1, mA, aCons, aNil, mB, mC, mCh, mT, mNot, mAnd, mOr, mAndV, mOrV, mNotV, mIf, mTup, mLst, mList, asB_b, allS_leaf, wipe_n, wipe_c, wset_z, wset_s, tYesM, oAsg, gPut, gTp, gsCons, gsNil, mSeq, seq_l, seq_t, bind_leaf, bind_fail, lineOk_1, lineOk_2, lineOk_3, mPeek_z, mPeek_s, mVar_z, mVar_s, put_z, put_s, opAdd_i, opSub_i, opNeg_i, cLt_i, cLe_i, cGt_i, cGe_i, cEq_i, cNe_i, fAbs_i, fInt_i, fLen_t, fLen_l, ix0, ix1, Bool.false_eq_true, Bool.not_true, Bool.not_false,
  List.length_cons, List.length_nil, List.map_cons, List.map_nil, List.cons_append, List.nil_append, List.replicate, Nat.reduceAdd, Nat.reduceSub, Nat.zero_add, if_true, if_false, ↓reduceIte])

/-! ### the law's spread -/
def bIn : En → Tree Out := (oSeq (oSet 7 (mA f_law_plus (aCons (mVar 4) (aCons (mTup (aCons (m2 opSub (fun _ => .leaf (.int 0)) (m2 opIx (mPeek 6) (fun _ => .leaf (.int 0)))) (aCons (m2 opIx (mPeek 6) (fun _ => .leaf (.int 1))) aNil))) aNil))))
  (oApp 2 (mA f_law_times (aCons (mA f_law_times (aCons (mVar 3) (aCons (mVar 5) aNil))) (aCons (mA f_law_times (aCons (mVar 7) (aCons (mVar 7) aNil))) aNil)))))
theorem app_2 {v : D} {me : En → Tree D} {a b c d e f g : Option Slot} {ds : List D} (h : me [a, b, some ⟨true, .lst ds⟩, c, d, e, f, g] = .leaf v) (hl : ds.length ≤ 100) : oApp 2 me [a, b, some ⟨true, .lst ds⟩, c, d, e, f, g] = .leaf (.nx [a, b, some ⟨true, .lst (ds ++ [v])⟩, c, d, e, f, g]) := by
  show ((me [a, b, some ⟨true, .lst ds⟩, c, d, e, f, g]).bind fun v => if ds.length < sizeLine then Tree.leaf (Out.nx [a, b, some ⟨true, .lst (ds ++ [v])⟩, c, d, e, f, g]) else .fail) = _
  rw [h, bind_leaf, if_pos (Nat.lt_of_le_of_lt hl (by decide))]
theorem neg_fr (q : Rat) : D.tup [.int (0 - q.num), .int q.den] = fr (-q) := by
  unfold fr
  rw [Rat.neg_num, Rat.neg_den]
  congr 3
  omega
theorem bIn_at {p q u w : Rat} (hp : Sz 40 p) (hq : Sz 40 q) (hu : Sz 20 u) (hw : Sz 20 w) {a b : Option Slot} {ds : List D} (hl : ds.length ≤ 100) {g : Option Slot} :
    ∃ g', bIn [a, b, some ⟨true, .lst ds⟩, some ⟨false, fr p⟩, some ⟨false, fr u⟩, some ⟨false, fr q⟩, some ⟨false, fr w⟩, g] = .leaf (.nx [a, b, some ⟨true, .lst (ds ++ [fr (prR (p, u) (q, w))])⟩, some ⟨false, fr p⟩, some ⟨false, fr u⟩, some ⟨false, fr q⟩, some ⟨false, fr w⟩, g']) := by
  have nw : Sz 20 (-w) := sz_neg hw
  have k1 := law_plus_fr (hu.mono (m := 4000) (by omega)) (nw.mono (m := 4000) (by omega))
  have sg : Sz 41 (u + -w) := sz_add hu nw
  have k2 := law_times_fr (hp.mono (m := 4000) (by omega)) (hq.mono (m := 4000) (by omega))
  have k3 := law_times_fr (sg.mono (m := 4000) (by omega)) (sg.mono (m := 4000) (by omega))
  have k4 := law_times_fr ((sz_mul hp hq).mono (m := 4000) (by omega)) ((sz_mul sg sg).mono (m := 4000) (by omega))
  have e : p * q * ((u + -w) * (u + -w)) = prR (p, u) (q, w) := by unfold prR; grind
  rw [e] at k4
  have i0 : opIx (fr w) (.int 0) = .leaf (.int w.num) := ix0 _ _
  have i1 : opIx (fr w) (.int 1) = .leaf (.int w.den) := ix1 _ _ _
  have ng := neg_fr w
  refine ⟨some ⟨false, fr (u + -w)⟩, ?_⟩
  have ap := app_2 (v := fr (prR (p, u) (q, w))) (me := mA f_law_times (aCons (mA f_law_times (aCons (mVar 3) (aCons (mVar 5) aNil))) (aCons (mA f_law_times (aCons (mVar 7) (aCons (mVar 7) aNil))) aNil))) (a := a) (b := b) (c := some ⟨false, fr p⟩) (d := some ⟨false, fr u⟩) (e := some ⟨false, fr q⟩) (f := some ⟨false, fr w⟩) (g := some ⟨false, fr (u + -w)⟩) (ds := ds) (by
    generalize f_law_times = ft at *
    simp only [mDef, En.start, oSeq, oIf, oRet, oSet, oOwn, putOwn_z, putOwn_s, oPar, oNx, oFail, oEx, _root_.R.m2, _root_.R.m1, _root_.R.mA, aCons, aNil, _root_.R.mB, _root_.R.mC, mCh, _root_.R.mT, mNot, mAnd, mOr, mAndV, mOrV, mNotV, mIf, mTup, mLst, mList, asB_b, allS_leaf, wipe_n, wipe_c, wset_z, wset_s, tYesM, oAsg, gPut, gTp, gsCons, gsNil, mSeq, seq_l, seq_t, bind_leaf, bind_fail, lineOk_1, lineOk_2, lineOk_3, mPeek_z, mPeek_s, mVar_z, mVar_s, put_z, put_s, opAdd_i, opSub_i, opNeg_i, cLt_i, cLe_i, cGt_i, cGe_i, cEq_i, cNe_i, fAbs_i, fInt_i, fLen_t, fLen_l, ix0, ix1, Bool.false_eq_true, Bool.not_true, Bool.not_false, List.length_cons, List.length_nil, List.map_cons, List.map_nil, List.cons_append, List.nil_append, List.replicate, Nat.reduceAdd, Nat.reduceSub, Nat.zero_add, if_true, if_false, ↓reduceIte, k2, k3, k4]) hl
  unfold bIn
  generalize oApp = oa at *
  generalize f_law_plus = fp at *
  generalize opIx = oi at *
  simp only [mDef, En.start, oSeq, oIf, oRet, oSet, oOwn, putOwn_z, putOwn_s, oPar, oNx, oFail, oEx, _root_.R.m2, _root_.R.m1, _root_.R.mA, aCons, aNil, _root_.R.mB, _root_.R.mC, mCh, _root_.R.mT, mNot, mAnd, mOr, mAndV, mOrV, mNotV, mIf, mTup, mLst, mList, asB_b, allS_leaf, wipe_n, wipe_c, wset_z, wset_s, tYesM, oAsg, gPut, gTp, gsCons, gsNil, mSeq, seq_l, seq_t, bind_leaf, bind_fail, lineOk_1, lineOk_2, lineOk_3, mPeek_z, mPeek_s, mVar_z, mVar_s, put_z, put_s, opAdd_i, opSub_i, opNeg_i, cLt_i, cLe_i, cGt_i, cGe_i, cEq_i, cNe_i, fAbs_i, fInt_i, fLen_t, fLen_l, ix0, ix1, Bool.false_eq_true, Bool.not_true, Bool.not_false, List.length_cons, List.length_nil, List.map_cons, List.map_nil, List.cons_append, List.nil_append, List.replicate, Nat.reduceAdd, Nat.reduceSub, Nat.zero_add, if_true, if_false, ↓reduceIte, i0, i1, ng, k1]
  exact ap
end Law

set_option maxRecDepth 100000
set_option linter.all false
namespace Law
open R PySem L2
local macro_rules | `(tactic| walk_at "ev") => `(tactic| simp only [mDef, En.start, oSeq, oIf, oRet, oSet, oOwn, putOwn_z, putOwn_s, oPar, oNx, oFail, oEx, m2, m1, mA, aCons, aNil, mB, mC, mCh, mT, mNot, mAnd, mOr, mAndV, mOrV, mNotV, mIf, mTup, mLst, mList, asB_b, allS_leaf, wipe_n, wipe_c, wset_z, wset_s, tYesM, oAsg, gPut, gTp, gsCons, gsNil, mSeq, seq_l, seq_t, bind_leaf, bind_fail, lineOk_1, lineOk_2, lineOk_3, mPeek_z, mPeek_s, mVar_z, mVar_s, put_z, put_s, opAdd_i, opSub_i, opNeg_i, cLt_i, cLe_i, cGt_i, cGe_i, cEq_i, cNe_i, fAbs_i, fInt_i, fLen_t, fLen_l, ix0, ix1, Bool.false_eq_true, Bool.not_true, Bool.not_false,
  List.length_cons, List.length_nil, List.map_cons, List.map_nil, List.cons_append, List.nil_append, List.replicate, Nat.reduceAdd, Nat.reduceSub, Nat.zero_add, if_true, if_false, ↓reduceIte])

def pD (z : Rat × Rat) : D := .tup [fr z.1, fr z.2]
theorem in_loop {x : Rat × Rat} (hx : Sz 40 x.1 ∧ Sz 20 x.2) {a b : Option Slot} : ∀ (Z : List (Rat × Rat)) (ds : List D) (e f g : Option Slot), (∀ z ∈ Z, Sz 40 z.1 ∧ Sz 20 z.2) → ds.length + Z.length ≤ 100 →
    ∃ e' f' g', oLoop (gTp 2 (gsCons (gPut 5) (gsCons (gPut 6) gsNil))) bIn (Z.map pD) [a, b, some ⟨true, .lst ds⟩, some ⟨false, fr x.1⟩, some ⟨false, fr x.2⟩, e, f, g] = .leaf (.nx [a, b, some ⟨true, .lst (ds ++ Z.map fun z => fr (prR x z))⟩, some ⟨false, fr x.1⟩, some ⟨false, fr x.2⟩, e', f', g'])
  | [], ds, e, f, g, _, _ => ⟨e, f, g, by rw [List.map_nil, List.map_nil, List.append_nil]; rfl⟩
  | z :: Z, ds, e, f, g, h, hl => by
    have hz := h z List.mem_cons_self
    simp only [List.length_cons] at hl
    obtain ⟨g1, k⟩ := bIn_at hx.1 hz.1 hx.2 hz.2 (a := a) (b := b) (ds := ds) (by omega) (g := g)
    obtain ⟨e', f', g', ih⟩ := in_loop hx (a := a) (b := b) Z (ds ++ [fr (prR x z)]) (some ⟨false, fr z.1⟩) (some ⟨false, fr z.2⟩) g1 (fun y hy => h y (List.mem_cons_of_mem _ hy)) (by rw [List.length_append, List.length_singleton]; omega)
    refine ⟨e', f', g', ?_⟩
    rw [List.map_cons, List.map_cons]
    unfold oLoop pD
    rw [show (fun z : Rat × Rat => D.tup [fr z.1, fr z.2]) = pD from rfl] 
    generalize bIn = bi at *
    simp only [mDef, En.start, oSeq, oIf, oRet, oSet, oOwn, putOwn_z, putOwn_s, oPar, oNx, oFail, oEx, _root_.R.m2, _root_.R.m1, _root_.R.mA, aCons, aNil, _root_.R.mB, _root_.R.mC, mCh, _root_.R.mT, mNot, mAnd, mOr, mAndV, mOrV, mNotV, mIf, mTup, mLst, mList, asB_b, allS_leaf, wipe_n, wipe_c, wset_z, wset_s, tYesM, oAsg, gPut, gTp, gsCons, gsNil, mSeq, seq_l, seq_t, bind_leaf, bind_fail, lineOk_1, lineOk_2, lineOk_3, mPeek_z, mPeek_s, mVar_z, mVar_s, put_z, put_s, opAdd_i, opSub_i, opNeg_i, cLt_i, cLe_i, cGt_i, cGe_i, cEq_i, cNe_i, fAbs_i, fInt_i, fLen_t, fLen_l, ix0, ix1, Bool.false_eq_true, Bool.not_true, Bool.not_false, List.length_cons, List.length_nil, List.map_cons, List.map_nil, List.cons_append, List.nil_append, List.replicate, Nat.reduceAdd, Nat.reduceSub, Nat.zero_add, if_true, if_false, ↓reduceIte]
    rw [k, bind_leaf]
    rw [List.append_assoc] at ih
    exact ih
end Law

set_option maxRecDepth 100000
set_option linter.all false
namespace Law
open R PySem L2
local macro_rules | `(tactic| walk_at "ev") => `(tactic| simp only [mDef, En.start, oSeq, oIf, oRet, oSet, oOwn, putOwn_z, putOwn_s, oPar, oNx, oFail, oEx, m2, m1, mA, aCons, aNil, mB, mC, mCh, mT, mNot, mAnd, mOr, mAndV, mOrV, mNotV, mIf, mTup, mLst, mList, asB_b, allS_leaf, wipe_n, wipe_c, wset_z, wset_s, tYesM, oAsg, gPut, gTp, gsCons, gsNil, mSeq, seq_l, seq_t, bind_leaf, bind_fail, lineOk_1, lineOk_2, lineOk_3, mPeek_z, mPeek_s, mVar_z, mVar_s, put_z, put_s, opAdd_i, opSub_i, opNeg_i, cLt_i, cLe_i, cGt_i, cGe_i, cEq_i, cNe_i, fAbs_i, fInt_i, fLen_t, fLen_l, ix0, ix1, Bool.false_eq_true, Bool.not_true, Bool.not_false,
  List.length_cons, List.length_nil, List.map_cons, List.map_nil, List.cons_append, List.nil_append, List.replicate, Nat.reduceAdd, Nat.reduceSub, Nat.zero_add, if_true, if_false, ↓reduceIte])

theorem out_loop {X Y : D} {Z : List (Rat × Rat)} (hZ : ∀ z ∈ Z, Sz 40 z.1 ∧ Sz 20 z.2) (hl8 : Z.length ≤ 8)
    (hm : ∀ (E : En), mVar 0 E = .leaf X → mVar 1 E = .leaf Y → mZip (mVar 0) (mVar 1) E = .leaf (Z.map pD)) : ∀ (V : List (Rat × Rat)) (ds : List D) (c d e f g : Option Slot), (∀ z ∈ V, Sz 40 z.1 ∧ Sz 20 z.2) → ds.length + V.length * 8 ≤ 90 →
    ∃ c' d' e' f' g', oLoop (gTp 2 (gsCons (gPut 3) (gsCons (gPut 4) gsNil))) (oFor (mZip (mVar 0) (mVar 1)) (gTp 2 (gsCons (gPut 5) (gsCons (gPut 6) gsNil))) bIn) (V.map pD) [some ⟨false, X⟩, some ⟨false, Y⟩, some ⟨true, .lst ds⟩, c, d, e, f, g] = .leaf (.nx [some ⟨false, X⟩, some ⟨false, Y⟩, some ⟨true, .lst (ds ++ (V.map fun v => Z.map fun z => fr (prR v z)).flatten)⟩, c', d', e', f', g'])
  | [], ds, c, d, e, f, g, _, _ => ⟨c, d, e, f, g, by rw [List.map_nil, List.map_nil, List.flatten_nil, List.append_nil]; rfl⟩
  | v :: V, ds, c, d, e, f, g, h, hl => by
    have hv := h v List.mem_cons_self
    simp only [List.length_cons] at hl
    obtain ⟨e1, f1, g1, k⟩ := in_loop hv (a := some ⟨false, X⟩) (b := some ⟨false, Y⟩) Z ds e f g hZ (by omega)
    have hs := hm [some ⟨false, X⟩, some ⟨false, Y⟩, some ⟨true, .lst ds⟩, some ⟨false, fr v.1⟩, some ⟨false, fr v.2⟩, e, f, g] rfl rfl
    have kf := for_at hs k
    obtain ⟨c', d', e', f', g', ih⟩ := out_loop hZ hl8 hm V (ds ++ Z.map fun z => fr (prR v z)) (some ⟨false, fr v.1⟩) (some ⟨false, fr v.2⟩) e1 f1 g1 (fun y hy => h y (List.mem_cons_of_mem _ hy)) (by rw [List.length_append, List.length_map]; omega)
    refine ⟨c', d', e', f', g', ?_⟩
    rw [List.map_cons, List.map_cons, List.flatten_cons]
    unfold oLoop
    rw [show pD v = D.tup [fr v.1, fr v.2] from rfl]
    generalize oFor = ff at *
    generalize bIn = bi at *
    simp only [mDef, En.start, oSeq, oIf, oRet, oSet, oOwn, putOwn_z, putOwn_s, oPar, oNx, oFail, oEx, _root_.R.m2, _root_.R.m1, _root_.R.mA, aCons, aNil, _root_.R.mB, _root_.R.mC, mCh, _root_.R.mT, mNot, mAnd, mOr, mAndV, mOrV, mNotV, mIf, mTup, mLst, mList, asB_b, allS_leaf, wipe_n, wipe_c, wset_z, wset_s, tYesM, oAsg, gPut, gTp, gsCons, gsNil, mSeq, seq_l, seq_t, bind_leaf, bind_fail, lineOk_1, lineOk_2, lineOk_3, mPeek_z, mPeek_s, mVar_z, mVar_s, put_z, put_s, opAdd_i, opSub_i, opNeg_i, cLt_i, cLe_i, cGt_i, cGe_i, cEq_i, cNe_i, fAbs_i, fInt_i, fLen_t, fLen_l, ix0, ix1, Bool.false_eq_true, Bool.not_true, Bool.not_false, List.length_cons, List.length_nil, List.map_cons, List.map_nil, List.cons_append, List.nil_append, List.replicate, Nat.reduceAdd, Nat.reduceSub, Nat.zero_add, if_true, if_false, ↓reduceIte]
    rw [kf, bind_leaf]
    rw [List.append_assoc] at ih
    exact ih
end Law

set_option maxRecDepth 100000
set_option linter.all false
namespace Law
open R PySem L2
local macro_rules | `(tactic| walk_at "ev") => `(tactic| simp only [mDef, En.start, oSeq, oIf, oRet, oSet, oOwn, putOwn_z, putOwn_s, oPar, oNx, oFail, oEx, m2, m1, mA, aCons, aNil, mB, mC, mCh, mT, mNot, mAnd, mOr, mAndV, mOrV, mNotV, mIf, mTup, mLst, mList, asB_b, allS_leaf, wipe_n, wipe_c, wset_z, wset_s, tYesM, oAsg, gPut, gTp, gsCons, gsNil, mSeq, seq_l, seq_t, bind_leaf, bind_fail, lineOk_1, lineOk_2, lineOk_3, mPeek_z, mPeek_s, mVar_z, mVar_s, put_z, put_s, opAdd_i, opSub_i, opNeg_i, cLt_i, cLe_i, cGt_i, cGe_i, cEq_i, cNe_i, fAbs_i, fInt_i, fLen_t, fLen_l, ix0, ix1, Bool.false_eq_true, Bool.not_true, Bool.not_false,
  List.length_cons, List.length_nil, List.map_cons, List.map_nil, List.cons_append, List.nil_append, List.replicate, Nat.reduceAdd, Nat.reduceSub, Nat.zero_add, if_true, if_false, ↓reduceIte])

/-! ### sums by a common bottom -/
def Kn (N M : Nat) (q : Rat) : Prop := ∃ k : Int, q * ((N : Int) : Rat) = (k : Rat) ∧ k.natAbs ≤ M
theorem kn_sz {N M n : Nat} {q : Rat} (h : Kn N M q) (h0 : 0 < N) (h1 : N < 2 ^ n) (h2 : M < 2 ^ n) : Sz n q := by
  obtain ⟨k, e, hk⟩ := h
  have hn := cast_ne (show (N : Int) ≠ 0 by omega)
  have eq : q = (k : Rat) / ((N : Int) : Rat) := by
    generalize ((N : Int) : Rat) = z at *
    grind
  rw [eq]
  exact sz_div (by omega) (Nat.lt_of_le_of_lt hk h2) (by omega)
theorem kn_add {N M M' : Nat} {p q : Rat} (h : Kn N M p) (h' : Kn N M' q) : Kn N (M + M') (p + q) := by
  obtain ⟨k, e, hk⟩ := h
  obtain ⟨l, e', hl⟩ := h'
  exact ⟨k + l, by rw [Rat.intCast_add, ← e, ← e']; grind, by omega⟩
theorem kn_zero (N : Nat) : Kn N 0 0 := ⟨0, by rw [show ((0 : Int) : Rat) = 0 from rfl]; grind, Nat.le_refl 0⟩
theorem law_total_kloop {p : Option Slot} {N B : Nat} (h0 : 0 < N) (h1 : N < 2 ^ 4000) : ∀ (L : List Rat) (a : Rat) (x : Option Slot) (A : Nat), Kn N A a → (∀ q ∈ L, Kn N B q) → A + L.length * B < 2 ^ 4000 → B < 2 ^ 4000 →
    ∃ y, oLoop (gPut 2) (oSet 1 (mA f_law_plus (aCons (mVar 1) (aCons (mVar 2) aNil)))) (L.map fr) [p, some ⟨false, fr a⟩, x] = .leaf (.nx [p, some ⟨false, fr (a + L.sum)⟩, y])
  | [], a, x, A, _, _, _, _ => ⟨x, by rw [show a + ([] : List Rat).sum = a by simp; grind]; rfl⟩
  | q :: L, a, x, A, ha, hL, hm, hB => by
    have hq := hL q List.mem_cons_self
    have e : (L.length + 1) * B = L.length * B + B := Nat.succ_mul _ _
    rw [List.length_cons, e] at hm
    generalize h4 : (2 : Nat) ^ 4000 = X at *
    obtain ⟨y, ih⟩ := law_total_kloop (p := p) h0 (h4 ▸ h1) L (a + q) (some ⟨false, fr q⟩) (A + B) (kn_add ha hq) (fun q hq => hL q (List.mem_cons_of_mem _ hq)) (by rw [h4]; omega) (h4 ▸ hB)
    refine ⟨y, ?_⟩
    have k := law_plus_fr (kn_sz ha h0 (n := 4000) (h4 ▸ h1) (by rw [h4]; omega)) (kn_sz hq h0 (n := 4000) (h4 ▸ h1) (h4 ▸ hB))
    rw [List.map_cons]
    unfold oLoop
    generalize f_law_plus = fa at *
    walk_at "ev"
    rw [k]
    walk_at "ev"
    rw [ih, List.sum_cons, Rat.add_assoc]
end Law

set_option maxRecDepth 100000
set_option linter.all false
namespace Law
open R PySem L2
local macro_rules | `(tactic| walk_at "ev") => `(tactic| simp only [mDef, En.start, oSeq, oIf, oRet, oSet, oOwn, putOwn_z, putOwn_s, oPar, oNx, oFail, oEx, m2, m1, mA, aCons, aNil, mB, mC, mCh, mT, mNot, mAnd, mOr, mAndV, mOrV, mNotV, mIf, mTup, mLst, mList, asB_b, allS_leaf, wipe_n, wipe_c, wset_z, wset_s, tYesM, oAsg, gPut, gTp, gsCons, gsNil, mSeq, seq_l, seq_t, bind_leaf, bind_fail, lineOk_1, lineOk_2, lineOk_3, mPeek_z, mPeek_s, mVar_z, mVar_s, put_z, put_s, opAdd_i, opSub_i, opNeg_i, cLt_i, cLe_i, cGt_i, cGe_i, cEq_i, cNe_i, fAbs_i, fInt_i, fLen_t, fLen_l, ix0, ix1, Bool.false_eq_true, Bool.not_true, Bool.not_false,
  List.length_cons, List.length_nil, List.map_cons, List.map_nil, List.cons_append, List.nil_append, List.replicate, Nat.reduceAdd, Nat.reduceSub, Nat.zero_add, if_true, if_false, ↓reduceIte])

theorem law_total_k {N B : Nat} (h0 : 0 < N) (h1 : N < 2 ^ 4000) (L : List Rat) (hL : ∀ q ∈ L, Kn N B q) (hm : L.length * B < 2 ^ 4000) (hB : B < 2 ^ 4000) : f_law_total [.lst (L.map fr)] = .leaf (fr L.sum) := by
  obtain ⟨y, hl⟩ := law_total_kloop (p := some ⟨false, .lst (L.map fr)⟩) h0 h1 L 0 none 0 (kn_zero N) hL (by rw [Nat.zero_add]; exact hm) hB
  rw [show (0 : Rat) + L.sum = L.sum by grind, fr_zero] at hl
  clear hm hB h1
  unfold f_law_total b_law_total
  generalize f_law_plus = fa at *
  have hs : mSeq (mVar 0) [some ⟨false, .lst (L.map fr)⟩, some ⟨false, .tup [.int 0, .int 1]⟩, none] = .leaf (L.map fr) := by simp only [mDef, En.start, oSeq, oIf, oRet, oSet, oOwn, putOwn_z, putOwn_s, oPar, oNx, oFail, oEx, _root_.R.m2, _root_.R.m1, _root_.R.mA, aCons, aNil, _root_.R.mB, _root_.R.mC, mCh, _root_.R.mT, mNot, mAnd, mOr, mAndV, mOrV, mNotV, mIf, mTup, mLst, mList, asB_b, allS_leaf, wipe_n, wipe_c, wset_z, wset_s, tYesM, oAsg, gPut, gTp, gsCons, gsNil, mSeq, seq_l, seq_t, bind_leaf, bind_fail, lineOk_1, lineOk_2, lineOk_3, mPeek_z, mPeek_s, mVar_z, mVar_s, put_z, put_s, opAdd_i, opSub_i, opNeg_i, cLt_i, cLe_i, cGt_i, cGe_i, cEq_i, cNe_i, fAbs_i, fInt_i, fLen_t, fLen_l, ix0, ix1, Bool.false_eq_true, Bool.not_true, Bool.not_false, List.length_cons, List.length_nil, List.map_cons, List.map_nil, List.cons_append, List.nil_append, List.replicate, Nat.reduceAdd, Nat.reduceSub, Nat.zero_add, if_true, if_false, ↓reduceIte]
  have hf := for_at hs hl
  generalize oFor = ff at *
  generalize L.map fr = z at *
  simp only [mDef, En.start, oSeq, oIf, oRet, oSet, oOwn, putOwn_z, putOwn_s, oPar, oNx, oFail, oEx, _root_.R.m2, _root_.R.m1, _root_.R.mA, aCons, aNil, _root_.R.mB, _root_.R.mC, mCh, _root_.R.mT, mNot, mAnd, mOr, mAndV, mOrV, mNotV, mIf, mTup, mLst, mList, asB_b, allS_leaf, wipe_n, wipe_c, wset_z, wset_s, tYesM, oAsg, gPut, gTp, gsCons, gsNil, mSeq, seq_l, seq_t, bind_leaf, bind_fail, lineOk_1, lineOk_2, lineOk_3, mPeek_z, mPeek_s, mVar_z, mVar_s, put_z, put_s, opAdd_i, opSub_i, opNeg_i, cLt_i, cLe_i, cGt_i, cGe_i, cEq_i, cNe_i, fAbs_i, fInt_i, fLen_t, fLen_l, ix0, ix1, Bool.false_eq_true, Bool.not_true, Bool.not_false, List.length_cons, List.length_nil, List.map_cons, List.map_nil, List.cons_append, List.nil_append, List.replicate, Nat.reduceAdd, Nat.reduceSub, Nat.zero_add, if_true, if_false, ↓reduceIte, hf]
theorem kn_mul {N M A B : Nat} {p q : Rat} (h : Kn N A p) (h' : Kn M B q) : Kn (N * M) (A * B) (p * q) := by
  obtain ⟨k, e, hk⟩ := h
  obtain ⟨l, e', hl⟩ := h'
  refine ⟨k * l, ?_, by rw [Int.natAbs_mul]; exact Nat.mul_le_mul hk hl⟩
  rw [show (((N * M : Nat) : Int) : Rat) = ((N : Int) : Rat) * ((M : Int) : Rat) by rw [← Rat.intCast_mul]; congr 1, Rat.intCast_mul, ← e, ← e']
  grind
theorem kn_sub {N A B : Nat} {p q : Rat} (h : Kn N A p) (h' : Kn N B q) : Kn N (A + B) (p - q) := by
  obtain ⟨k, e, hk⟩ := h
  obtain ⟨l, e', hl⟩ := h'
  exact ⟨k - l, by rw [Rat.intCast_sub, ← e, ← e']; grind, by omega⟩
theorem kn_pr {N M A B : Nat} {x z : Rat × Rat} (h1 : Kn N A x.1) (h2 : Kn N A z.1) (h3 : Kn M B x.2) (h4 : Kn M B z.2) : Kn (N * N * (M * M)) (A * A * ((B + B) * (B + B))) (prR x z) := kn_mul (kn_mul h1 h2) (kn_mul (kn_sub h3 h4) (kn_sub h3 h4))
end Law

set_option maxRecDepth 100000
set_option linter.all false
/-! the toolbox: comprehensions and loops by closures -/
namespace R
open PySem L2
open Tree (leaf fail)
def lcc (mt : D → Tree Bool) (me : D → Tree D) : List D → Tree (List D)
  | [] => leaf []
  | d :: ds => (mt d).bind fun b => if b = true then (me d).bind fun y => (lcc mt me ds).bind fun r => leaf (y :: r) else lcc mt me ds
/-- with its line -/
def lck (mt : D → Tree Bool) (me : D → Tree D) (ds : List D) : Tree (List D) := lineOk ds.length (lcc mt me ds)
def pairK {α : Type} (k : D → D → Tree α) : D → Tree α
  | .tup [a, b] => k a b
  | _ => .fail
def triK {α : Type} (k : D → D → D → Tree α) : D → Tree α
  | .tup [a, b, c] => k a b c
  | _ => .fail
theorem pairK_t {α : Type} (k : D → D → Tree α) (a b : D) : pairK k (.tup [a, b]) = k a b := Eq.trans rfl rfl
theorem triK_t {α : Type} (k : D → D → D → Tree α) (a b c : D) : triK k (.tup [a, b, c]) = k a b c := Eq.trans rfl rfl
theorem bind_assoc' {α β γ : Type} (f : α → Tree β) (g : β → Tree γ) : ∀ t : Tree α, (t.bind f).bind g = t.bind fun a => (f a).bind g
  | .leaf a => rfl
  | .fail => rfl
  | .draw n k => congrArg (Tree.draw n) (funext fun i => bind_assoc' f g (k i))
theorem lcLoop_of {g : D → En → Tree En} {mt : En → Tree Bool} {me : En → Tree D} {E : En} {gt : D → Tree Bool} {ge : D → Tree D} (h1 : ∀ d, (g d E).bind mt = gt d) (h2 : ∀ d E', g d E = .leaf E' → me E' = ge d) (h3 : ∀ d, (∃ E', g d E = .leaf E') ∨ (g d E = .fail)) : ∀ ds, lcLoop g mt me E ds = lcc gt ge ds
  | [] => rfl
  | d :: ds => by
    unfold lcLoop lcc
    rw [← h1 d, lcLoop_of h1 h2 h3 ds]
    rcases h3 d with ⟨E', e⟩ | e
    · rw [e, bind_leaf, bind_leaf, h2 d E' e]
    · rw [e]; rfl
theorem mLc_1 {mi : En → Tree (List D)} {vs : List Nat} {i : Nat} {mt : En → Tree Bool} {me : En → Tree D} {E : En} : mLc mi vs (gPut i) mt me E = (mi E).bind (lck (fun d => mt ((wipeE E vs).put i d)) (fun d => me ((wipeE E vs).put i d))) := by
  unfold mLc lck
  congr 1
  funext ds
  rw [lcLoop_of (g := gPut i) (E := wipeE E vs) (gt := fun d => mt ((wipeE E vs).put i d)) (ge := fun d => me ((wipeE E vs).put i d)) (fun d => rfl) (fun d E' h => by cases h; rfl) (fun d => .inl ⟨_, rfl⟩)]
theorem gtp2 {i j : Nat} {E : En} : ∀ d : D, (∃ a b, d = .tup [a, b] ∧ gTp 2 (gsCons (gPut i) (gsCons (gPut j) gsNil)) d E = .leaf ((E.put i a).put j b)) ∨ (gTp 2 (gsCons (gPut i) (gsCons (gPut j) gsNil)) d E = .fail ∧ ∀ (α : Type) (k : D → D → Tree α), pairK k d = .fail)
  | .tup [] => .inr ⟨rfl, fun _ _ => rfl⟩
  | .tup [_] => .inr ⟨rfl, fun _ _ => rfl⟩
  | .tup [a, b] => .inl ⟨a, b, rfl, rfl⟩
  | .tup (x :: y :: z :: l) => .inr ⟨by
    show (if (l.length + 1 + 1 + 1 = 2) then gsCons (gPut i) (gsCons (gPut j) gsNil) (x :: y :: z :: l) E else Tree.fail) = _
    exact if_neg (by omega), fun _ _ => rfl⟩
  | .non => .inr ⟨rfl, fun _ _ => rfl⟩
  | .bl _ => .inr ⟨rfl, fun _ _ => rfl⟩
  | .int _ => .inr ⟨rfl, fun _ _ => rfl⟩
  | .str _ => .inr ⟨rfl, fun _ _ => rfl⟩
  | .lst _ => .inr ⟨rfl, fun _ _ => rfl⟩
  | .pot => .inr ⟨rfl, fun _ _ => rfl⟩
  | .ty _ => .inr ⟨rfl, fun _ _ => rfl⟩
  | .scr _ => .inr ⟨rfl, fun _ _ => rfl⟩
  | .dct => .inr ⟨rfl, fun _ _ => rfl⟩
  | .fn _ => .inr ⟨rfl, fun _ _ => rfl⟩
theorem mLc_2 {mi : En → Tree (List D)} {vs : List Nat} {i j : Nat} {mt : En → Tree Bool} {me : En → Tree D} {E : En} : mLc mi vs (gTp 2 (gsCons (gPut i) (gsCons (gPut j) gsNil))) mt me E =
    (mi E).bind (lck (pairK fun a b => mt (((wipeE E vs).put i a).put j b)) (pairK fun a b => me (((wipeE E vs).put i a).put j b))) := by
  unfold mLc lck
  congr 1
  funext ds
  congr 1
  refine lcLoop_of (fun d => ?_) (fun d E' h => ?_) (fun d => ?_) ds
  · rcases gtp2 (i := i) (j := j) (E := wipeE E vs) d with ⟨a, b, rfl, e⟩ | ⟨e, k⟩
    · rw [e]; rfl
    · rw [e, k]; rfl
  · rcases gtp2 (i := i) (j := j) (E := wipeE E vs) d with ⟨a, b, rfl, e⟩ | ⟨e, k⟩
    · rw [e] at h; cases h; rfl
    · rw [e] at h; cases h
  · rcases gtp2 (i := i) (j := j) (E := wipeE E vs) d with ⟨a, b, rfl, e⟩ | ⟨e, k⟩
    · exact .inl ⟨_, e⟩
    · exact .inr e
/-! what they give -/
theorem lcc_map {β : Type} {mt : D → Tree Bool} {me : D → Tree D} {dx f : β → D} : ∀ {L : List β}, (∀ x ∈ L, mt (dx x) = .leaf true ∧ me (dx x) = .leaf (f x)) → lcc mt me (L.map dx) = .leaf (L.map f)
  | [], _ => rfl
  | x :: L, h => by
    rw [List.map_cons, List.map_cons]
    unfold lcc
    rw [(h x List.mem_cons_self).1, bind_leaf, if_pos rfl, (h x List.mem_cons_self).2, bind_leaf, lcc_map fun y hy => h y (List.mem_cons_of_mem _ hy), bind_leaf]
theorem lcc_filter {β : Type} {mt : D → Tree Bool} {me : D → Tree D} {dx f : β → D} {t : β → Bool} : ∀ {L : List β}, (∀ x ∈ L, mt (dx x) = .leaf (t x) ∧ (t x = true → me (dx x) = .leaf (f x))) → lcc mt me (L.map dx) = .leaf ((L.filter t).map f)
  | [], _ => rfl
  | x :: L, h => by
    rw [List.map_cons]
    have h1 := h x List.mem_cons_self
    have ih := lcc_filter (L := L) (f := f) fun y hy => h y (List.mem_cons_of_mem _ hy)
    unfold lcc
    rw [h1.1, bind_leaf, ih]
    cases ht : t x with
    | true => rw [if_pos rfl, h1.2 ht, bind_leaf, bind_leaf, List.filter_cons_of_pos ht, List.map_cons]
    | false => rw [if_neg (by decide), List.filter_cons_of_neg (by simp [ht])]
/-- every item by a plain function -/
theorem lck_map {β : Type} (f : β → D) {mt : D → Tree Bool} {me : D → Tree D} {dx : β → D} {L : List β} (hl : L.length ≤ 100) (h : ∀ x ∈ L, mt (dx x) = .leaf true ∧ me (dx x) = .leaf (f x)) : lck mt me (L.map dx) = .leaf (L.map f) := by
  unfold lck
  rw [List.length_map, lineOk_s _ _ hl, lcc_map h]
theorem lck_filter {β : Type} (t : β → Bool) (f : β → D) {mt : D → Tree Bool} {me : D → Tree D} {dx : β → D} {L : List β} (hl : L.length ≤ 100) (h : ∀ x ∈ L, mt (dx x) = .leaf (t x) ∧ (t x = true → me (dx x) = .leaf (f x))) : lck mt me (L.map dx) = .leaf ((L.filter t).map f) := by
  unfold lck
  rw [List.length_map, lineOk_s _ _ hl, lcc_filter h]
/-! ranges, own lists, lines -/
def rng1 : D → Tree (List D)
  | .int j => if rOk j = true then leaf (rangeD 0 j) else fail
  | _ => fail
def rng2 : D → D → Tree (List D)
  | .int i, .int j => if (rOk i && rOk j) = true then leaf (rangeD i j) else fail
  | _, _ => fail
theorem mRange1_b {m : En → Tree D} {E : En} : mRange1 m E = (m E).bind rng1 := by
  unfold mRange1
  congr 1
theorem mRange2_b {m m' : En → Tree D} {E : En} : mRange2 m m' E = (m E).bind fun d => (m' E).bind (rng2 d) := by
  unfold mRange2
  congr 1
theorem rOk_n {n : Nat} (h : n ≤ 100) : rOk (n : Int) = true := by
  unfold rOk
  rw [decide_eq_true (by omega), decide_eq_true (by omega)]; rfl
abbrev iN (n : Nat) : List D := (List.range n).map fun i : Nat => .int (i : Int)
theorem rng1_n {n : Nat} (h : n ≤ 100) : rng1 (.int n) = .leaf ((List.range n).map fun i : Nat => .int (i : Int)) := by
  rw [← range_n]
  show (if rOk (n : Int) = true then leaf (rangeD 0 n) else fail) = _
  rw [rOk_n h, if_pos rfl]
theorem rng2_n {m n : Nat} (h : n ≤ 100) (hm : m ≤ 100) : rng2 (.int m) (.int n) = .leaf ((List.range' m (n - m)).map fun i : Nat => .int (i : Int)) := by
  have e : rangeD (m : Int) (n : Int) = (List.range' m (n - m)).map fun i : Nat => .int (i : Int) := by
    unfold rangeD
    rw [show ((n : Int) - m).toNat = n - m by omega, List.range'_eq_map_range, List.map_map]
    exact List.map_congr_left fun i _ => by simp
  rw [← e]
  show (if (rOk (m : Int) && rOk (n : Int)) = true then leaf (rangeD m n) else fail) = _
  rw [rOk_n h, rOk_n hm]
  exact if_pos rfl
theorem mOwn_z {ds : List D} {E : En} {k : List D → Tree Out} : mOwn 0 (some ⟨true, .lst ds⟩ :: E) k = k ds := rfl
theorem mOwn_s {i : Nat} {x : Option Slot} {E : En} {k : List D → Tree Out} : mOwn (i + 1) (x :: E) k = mOwn i E k := rfl
theorem frz1_z {d : D} {b : Bool} {E : En} : frz1 0 (some ⟨b, d⟩ :: E) = some ⟨false, d⟩ :: E := by cases b <;> rfl
theorem frz1_n {E : En} : frz1 0 (none :: E) = none :: E := rfl
theorem frz1_s {i : Nat} {x : Option Slot} {E : En} : frz1 (i + 1) (x :: E) = x :: frz1 i E := by
  unfold frz1
  rw [List.getElem?_cons_succ]
  cases E[i]? with
  | none => rfl
  | some s =>
    cases s with
    | none => rfl
    | some s =>
      cases s with
      | mk o d => cases o <;> rfl
def revK : D → Tree D
  | .lst ds => leaf (.lst ds.reverse)
  | .tup ds => leaf (.tup ds.reverse)
  | _ => fail
theorem mRevA_b {m : En → Tree D} {E : En} : mRevA m E = (m E).bind revK := by
  unfold mRevA
  congr 1
theorem revK_t (ds : List D) : revK (.tup ds) = .leaf (.tup ds.reverse) := Eq.trans rfl rfl
theorem revK_l (ds : List D) : revK (.lst ds) = .leaf (.lst ds.reverse) := Eq.trans rfl rfl
def toldK (i : Nat) (mt : En → Tree Bool) (mr : En → Tree Out) (E : En) : D → Tree Out
  | .lst ds => if ds.length < sizeLine ∧ i < E.length then (mt (E.put i (.lst ds))).bind fun c => if c = true then leaf (.rt (.bl false)) else mr (E.set i none) else fail
  | _ => fail
theorem oTold_b {i : Nat} {me : En → Tree D} {mt : En → Tree Bool} {mr : En → Tree Out} {E : En} : oTold i me mt mr E = (me E).bind (toldK i mt mr E) := by
  unfold oTold
  congr 1
theorem toldK_l {i : Nat} {mt : En → Tree Bool} {mr : En → Tree Out} {E : En} {ds : List D} (h : ds.length ≤ 100) (hi : i < E.length) : toldK i mt mr E (.lst ds) = (mt (E.put i (.lst ds))).bind fun c => if c = true then leaf (.rt (.bl false)) else mr (wset E i) :=
  if_pos ⟨Nat.lt_of_le_of_lt h (by decide), hi⟩
def toldK0 (i : Nat) (mt : En → Tree Bool) (mr : En → Tree Out) (E : En) : D → Tree Out
  | .lst (.lst ds :: es) => if ds.length < sizeLine ∧ i < E.length then (mt (E.put i (.lst (.lst ds :: es)))).bind fun c => if c = true then leaf (.rt (.bl false)) else mr (E.set i none) else fail
  | _ => fail
theorem oTold0_b {i : Nat} {me : En → Tree D} {mt : En → Tree Bool} {mr : En → Tree Out} {E : En} : oTold0 i me mt mr E = (me E).bind (toldK0 i mt mr E) := by
  unfold oTold0
  congr 1
theorem toldK0_l {i : Nat} {mt : En → Tree Bool} {mr : En → Tree Out} {E : En} {ds es : List D} (h : ds.length ≤ 100) (hi : i < E.length) : toldK0 i mt mr E (.lst (.lst ds :: es)) = (mt (E.put i (.lst (.lst ds :: es)))).bind fun c => if c = true then leaf (.rt (.bl false)) else mr (wset E i) :=
  if_pos ⟨Nat.lt_of_le_of_lt h (by decide), hi⟩
theorem perm_0 (a : D) : permD [0] [a] = [a] := rfl
theorem perm_01 (a b : D) : permD [0, 1] [a, b] = [a, b] := rfl
theorem perm_10 (a b : D) : permD [1, 0] [a, b] = [b, a] := rfl
theorem perm_012 (a b c : D) : permD [0, 1, 2] [a, b, c] = [a, b, c] := rfl
theorem perm_021 (a b c : D) : permD [0, 2, 1] [a, b, c] = [a, c, b] := rfl
theorem perm_102 (a b c : D) : permD [1, 0, 2] [a, b, c] = [b, a, c] := rfl
theorem perm_120 (a b c : D) : permD [1, 2, 0] [a, b, c] = [b, c, a] := rfl
theorem perm_201 (a b c : D) : permD [2, 0, 1] [a, b, c] = [c, a, b] := rfl
theorem perm_210 (a b c : D) : permD [2, 1, 0] [a, b, c] = [c, b, a] := rfl
theorem perm_0123 (a b c d : D) : permD [0, 1, 2, 3] [a, b, c, d] = [a, b, c, d] := rfl
theorem perm_0132 (a b c d : D) : permD [0, 1, 3, 2] [a, b, c, d] = [a, b, d, c] := rfl
theorem perm_0213 (a b c d : D) : permD [0, 2, 1, 3] [a, b, c, d] = [a, c, b, d] := rfl
theorem perm_0231 (a b c d : D) : permD [0, 2, 3, 1] [a, b, c, d] = [a, c, d, b] := rfl
theorem perm_0312 (a b c d : D) : permD [0, 3, 1, 2] [a, b, c, d] = [a, d, b, c] := rfl
theorem perm_0321 (a b c d : D) : permD [0, 3, 2, 1] [a, b, c, d] = [a, d, c, b] := rfl
theorem perm_1023 (a b c d : D) : permD [1, 0, 2, 3] [a, b, c, d] = [b, a, c, d] := rfl
theorem perm_1032 (a b c d : D) : permD [1, 0, 3, 2] [a, b, c, d] = [b, a, d, c] := rfl
theorem perm_1203 (a b c d : D) : permD [1, 2, 0, 3] [a, b, c, d] = [b, c, a, d] := rfl
theorem perm_1230 (a b c d : D) : permD [1, 2, 3, 0] [a, b, c, d] = [b, c, d, a] := rfl
theorem perm_1302 (a b c d : D) : permD [1, 3, 0, 2] [a, b, c, d] = [b, d, a, c] := rfl
theorem perm_1320 (a b c d : D) : permD [1, 3, 2, 0] [a, b, c, d] = [b, d, c, a] := rfl
theorem perm_2013 (a b c d : D) : permD [2, 0, 1, 3] [a, b, c, d] = [c, a, b, d] := rfl
theorem perm_2031 (a b c d : D) : permD [2, 0, 3, 1] [a, b, c, d] = [c, a, d, b] := rfl
theorem perm_2103 (a b c d : D) : permD [2, 1, 0, 3] [a, b, c, d] = [c, b, a, d] := rfl
theorem perm_2130 (a b c d : D) : permD [2, 1, 3, 0] [a, b, c, d] = [c, b, d, a] := rfl
theorem perm_2301 (a b c d : D) : permD [2, 3, 0, 1] [a, b, c, d] = [c, d, a, b] := rfl
theorem perm_2310 (a b c d : D) : permD [2, 3, 1, 0] [a, b, c, d] = [c, d, b, a] := rfl
theorem perm_3012 (a b c d : D) : permD [3, 0, 1, 2] [a, b, c, d] = [d, a, b, c] := rfl
theorem perm_3021 (a b c d : D) : permD [3, 0, 2, 1] [a, b, c, d] = [d, a, c, b] := rfl
theorem perm_3102 (a b c d : D) : permD [3, 1, 0, 2] [a, b, c, d] = [d, b, a, c] := rfl
theorem perm_3120 (a b c d : D) : permD [3, 1, 2, 0] [a, b, c, d] = [d, b, c, a] := rfl
theorem perm_3201 (a b c d : D) : permD [3, 2, 0, 1] [a, b, c, d] = [d, c, a, b] := rfl
theorem perm_3210 (a b c d : D) : permD [3, 2, 1, 0] [a, b, c, d] = [d, c, b, a] := rfl
def heardK (ret : Str) : Option D → Tree D
  | some d => leaf d
  | none => leaf (.str ret)
theorem mHeard_b {ret : Str} {fx : List D → Tree (Option D)} {ma : En → Tree (List D)} {E : En} : mHeard ret fx ma E = (ma E).bind fun ds => (fx ds).bind (heardK ret) := by
  unfold mHeard
  congr 1
def lr1 : D → Tree (List D)
  | .int j => if (rgOk 0 && rgOk j) = true then .leaf (rangeD 0 j) else .fail
  | _ => .fail
theorem mListR1_b {m : En → Tree D} {E : En} : mListR1 m E = (m E).bind lr1 := by
  unfold mListR1
  congr 1
theorem lr1_n {n : Nat} (h : n ≤ 100) : lr1 (.int n) = .leaf (iN n) := by
  have e : rgOk (n : Int) = true := by
    unfold rgOk
    rw [decide_eq_true (by omega), decide_eq_true (by omega)]; rfl
  show (if (rgOk 0 && rgOk (n : Int)) = true then leaf (rangeD 0 n) else .fail) = _
  rw [e, range_n]
  exact if_pos (by decide)
theorem cut_hi {ds : List D} {k : Nat} : opCut none (some (k : Int)) (.lst ds) = .leaf (.lst (ds.take k)) := by
  show Tree.leaf (D.lst ((ds.drop 0).take ((if (k : Int) < 0 then ((k : Int) + (ds.length : Int)).toNat else min (k : Int).toNat ds.length) - 0))) = _
  rw [if_neg (by omega), Int.toNat_natCast, List.drop_zero, Nat.sub_zero]
  congr 2
  by_cases h : k ≤ ds.length
  · rw [Nat.min_eq_left h]
  · rw [Nat.min_eq_right (by omega), List.take_of_length_le (by omega), List.take_of_length_le (by omega)]
theorem slt {n : Nat} (h : n ≤ 100) : (n < sizeLine) = True := eq_true (Nat.lt_of_le_of_lt h (by decide))
theorem slt1 {n : Nat} (h : n ≤ 100) : (n + 1 < sizeLine) = True := eq_true (Nat.lt_of_le_of_lt (Nat.succ_le_succ h) (by decide))
theorem ixN_n {n k : Nat} (h : k < n) : ixN n (k : Int) = some k := by
  unfold ixN
  rw [if_pos (by omega), if_pos (by omega)]
  rfl
theorem opIx_lt {ds : List D} {k : Nat} (hk : k < ds.length) : opIx (.lst ds) (.int (k : Int)) = .leaf (ds.getD k .non) ∧ opIx (.tup ds) (.int (k : Int)) = .leaf (ds.getD k .non) := by
  have e : atI ds (k : Int) = some ds[k] := by
    unfold atI
    rw [ixN_n hk]
    simp [hk]
  constructor <;>
  · show ixO _ _ _ = _
    unfold ixO
    rw [e]
    simp [hk]
theorem enum_gen {β : Type} (dx : β → D) : ∀ (L : List β) (k : Nat), enumD k (L.map dx) = (L.zipIdx k).map fun z => .tup [.int (z.2 : Int), dx z.1]
  | [], _ => rfl
  | x :: L, k => by
    rw [List.map_cons, List.zipIdx_cons, List.map_cons]
    unfold enumD
    rw [enum_gen dx L (k + 1)]
theorem zip_gen {β γ : Type} (dx : β → D) (ey : γ → D) : ∀ (P : List β) (Q : List γ), zipD (P.map dx) (Q.map ey) = (P.zip Q).map fun x => .tup [dx x.1, ey x.2]
  | [], _ => by simp [zipD]
  | _ :: _, [] => by simp [zipD]
  | p :: P, q :: Q => by simp only [List.map_cons, zipD, List.zip_cons_cons, zip_gen dx ey P Q]
end R
namespace Law
open R PySem L2
open Tree (leaf fail)
/-- every item draws -/
theorem lccS {β : Type} {P : β → D → Prop} {mt : D → Tree Bool} {me : D → Tree D} {dx : β → D} : ∀ L : List β, (∀ x ∈ L, mt (dx x) = .leaf true ∧ AllS (P x) (me (dx x))) → AllS (fun ys => ∃ zs : List (β × D), ys = zs.map (·.2) ∧ zs.map (·.1) = L ∧ ∀ z ∈ zs, P z.1 z.2) (lcc mt me (L.map dx))
  | [], _ => by
    show AllS _ (Tree.leaf [])
    rw [allS_leaf]
    exact ⟨[], rfl, rfl, fun _ h => nomatch h⟩
  | x :: L, h => by
    have h1 := h x List.mem_cons_self
    have ih := lccS (P := P) L fun y hy => h y (List.mem_cons_of_mem _ hy)
    rw [List.map_cons]
    unfold lcc
    rw [h1.1, bind_leaf, if_pos rfl]
    refine allS_fun h1.2 fun y hy => allS_fun ih fun ys hys => ?_
    obtain ⟨zs, rfl, e2, hz⟩ := hys
    rw [allS_leaf]
    exact ⟨(x, y) :: zs, rfl, by rw [List.map_cons, e2], fun z m => (List.mem_cons.mp m).elim (fun e => e ▸ hy) (hz z)⟩
theorem lckS {β : Type} (P : β → D → Prop) {mt : D → Tree Bool} {me : D → Tree D} {dx : β → D} {L : List β} (hl : L.length ≤ 100) (h : ∀ x ∈ L, mt (dx x) = .leaf true ∧ AllS (P x) (me (dx x))) : AllS (fun ys => ∃ zs : List (β × D), ys = zs.map (·.2) ∧ zs.map (·.1) = L ∧ ∀ z ∈ zs, P z.1 z.2) (lck mt me (L.map dx)) := by
  unfold lck
  rw [List.length_map, lineOk_s _ _ hl]
  exact lccS L h
/-- a loop by an invariant over what is left; the turns neither end nor draw -/
theorem loop_ex {β : Type} {g : D → En → Tree En} {m : En → Tree Out} {dx : β → D} {I : List β → En → Prop} : ∀ (L : List β) (E : En), I L E → (∀ x L' E, x ∈ L → I (x :: L') E → ∃ E', (g (dx x) E).bind m = .leaf (.nx E') ∧ I L' E') → ∃ E', oLoop g m (L.map dx) E = .leaf (.nx E') ∧ I [] E'
  | [], E, h, _ => ⟨E, rfl, h⟩
  | x :: L, E, h, k => by
    obtain ⟨E1, e1, h1⟩ := k x L E List.mem_cons_self h
    obtain ⟨E2, e2, h2⟩ := loop_ex L E1 h1 fun y L' E hy hI => k y L' E (List.mem_cons_of_mem _ hy) hI
    refine ⟨E2, ?_, h2⟩
    rw [List.map_cons]
    unfold oLoop
    rw [← bind_assoc', e1, bind_leaf]
    exact e2
theorem for_ex {β : Type} (dx : β → D) (L : List β) (I : List β → En → Prop) {mi : En → Tree (List D)} {g : D → En → Tree En} {m : En → Tree Out} {E : En} (hi : mi E = .leaf (L.map dx)) (h0 : I L E)
    (k : ∀ x L' E, x ∈ L → I (x :: L') E → ∃ E', (g (dx x) E).bind m = .leaf (.nx E') ∧ I L' E') : ∃ E', oFor mi g m E = .leaf (.nx E') ∧ I [] E' := by
  unfold oFor
  rw [hi, bind_leaf]
  exact loop_ex L E h0 k
/-- a loop whose turns may draw or end; Q: what is asked of its end -/
theorem loopS {β : Type} {g : D → En → Tree En} {m : En → Tree Out} {dx : β → D} {I : List β → En → Prop} {Q : Out → Prop} (hQ : ∀ E, I [] E → Q (.nx E)) : ∀ (L : List β) (E : En), I L E →
    (∀ x L' E, x ∈ L → I (x :: L') E → AllS (fun o => match o with
      | .nx E' => I L' E'
      | .ct E' => I L' E'
      | .bk E' => Q (.nx E')
      | .rt d => Q (.rt d)) ((g (dx x) E).bind m)) → AllS Q (oLoop g m (L.map dx) E)
  | [], E, h, _ => by
    show AllS Q (Tree.leaf (.nx E))
    rw [allS_leaf]
    exact hQ E h
  | x :: L, E, h, k => by
    have k1 := k x L E List.mem_cons_self h
    rw [List.map_cons]
    unfold oLoop
    rw [← bind_assoc']
    refine allS_fun k1 fun o ho => ?_
    cases o with
    | nx E' => exact loopS hQ L E' ho fun y L' E hy hI => k y L' E (List.mem_cons_of_mem _ hy) hI
    | ct E' => exact loopS hQ L E' ho fun y L' E hy hI => k y L' E (List.mem_cons_of_mem _ hy) hI
    | bk E' => rw [allS_leaf]; exact ho
    | rt d => rw [allS_leaf]; exact ho
theorem forS {β : Type} (dx : β → D) (L : List β) (I : List β → En → Prop) (Q : Out → Prop) {mi : En → Tree (List D)} {g : D → En → Tree En} {m : En → Tree Out} {E : En} (hi : mi E = .leaf (L.map dx)) (h0 : I L E) (hQ : ∀ E, I [] E → Q (.nx E))
    (k : ∀ x L' E, x ∈ L → I (x :: L') E → AllS (fun o => match o with
      | .nx E' => I L' E'
      | .ct E' => I L' E'
      | .bk E' => Q (.nx E')
      | .rt d => Q (.rt d)) ((g (dx x) E).bind m)) : AllS Q (oFor mi g m E) := by
  unfold oFor
  rw [hi, bind_leaf]
  exact loopS hQ L E h0 k
end Law

set_option maxRecDepth 100000
set_option linter.all false
namespace R
open PySem L2
/-! repr of data with whole numbers below 2 ^ b -/
def numB (b : Nat) : Nat → D → Bool
  | 0, _ => false
  | n + 1, d => match d with
    | .non => true
    | .bl _ => true
    | .int i => decide (i.natAbs < 2 ^ b)
    | .str x => PyData.strOk x && (PyData.str x).showable && (PyData.str x).leavesShort (b + 1) && PyData.strOk (PyData.str x).shown && decide (x.cps.size ≤ b)
    | .tup xs => xs.all (numB b n)
    | .lst xs => xs.all (numB b n)
    | _ => false
/-- how many data stand in it -/
def nodes : Nat → D → Nat
  | 0, _ => 0
  | n + 1, d => match d with
    | .tup xs => (xs.map fun x => nodes n x + 1).sum
    | .lst xs => (xs.map fun x => nodes n x + 1).sum
    | _ => 1
structure NumOkB (b : Nat) (d : PyData) (w : Nat) : Prop where
  sh : d.showable = true
  ls : d.leavesShort (b + 1) = true
  ok : PyData.strOk d.shown = true
  wt : d.weight ≤ w * (b + 1)
theorem numB_all {b n : Nat} (ih : ∀ d, numB b n d = true → fitD n d = true ∧ NumOkB b (toPy n d) (nodes n d)) : ∀ xs : List D, xs.all (numB b n) = true →
    xs.all (fitD n) = true ∧ PyData.showableAll (xs.map (toPy n)) = true ∧ PyData.leavesShortAll (b + 1) (xs.map (toPy n)) = true ∧ (∀ t ∈ PyData.shownAll (xs.map (toPy n)), PyData.strOk t = true) ∧ PyData.weightAll (xs.map (toPy n)) ≤ (xs.map fun x => nodes n x + 1).sum * (b + 1)
  | [], _ => ⟨rfl, by simp [PyData.showableAll], by simp [PyData.leavesShortAll], by simp [PyData.shownAll], by simp [PyData.weightAll]⟩
  | x :: xs, h => by
    rw [List.all_cons, Bool.and_eq_true] at h
    obtain ⟨a, c⟩ := ih x h.1
    obtain ⟨c1, c2, c3, c4, c5⟩ := numB_all ih xs h.2
    refine ⟨by rw [List.all_cons, a, c1]; rfl, by rw [List.map_cons, PyData.showableAll, c.sh, c2]; rfl, by rw [List.map_cons, PyData.leavesShortAll, c.ls, c3]; rfl, ?_, ?_⟩
    · rw [List.map_cons, PyData.shownAll]
      intro t ht
      rcases List.mem_cons.mp ht with e | e
      · exact e ▸ c.ok
      · exact c4 t e
    · rw [List.map_cons, List.map_cons, List.sum_cons]
      simp only [PyData.weightAll]
      have h1 := c.wt
      have e1 : (nodes n x + 1 + (xs.map fun x => nodes n x + 1).sum) * (b + 1) = nodes n x * (b + 1) + (b + 1) + (xs.map fun x => nodes n x + 1).sum * (b + 1) := by
        rw [Nat.add_mul, Nat.add_mul, Nat.one_mul]
      omega
theorem numOkB {b : Nat} (hb : b ≤ 1900) : ∀ (n : Nat) (d : D), numB b n d = true → fitD n d = true ∧ NumOkB b (toPy n d) (nodes n d)
  | 0, _, h => by cases h
  | n + 1, d, h => by
    cases d with
    | non => exact ⟨rfl, by simp [toPy, PyData.showable], by simp [toPy, PyData.leavesShort], by simp only [toPy, PyData.shown]; exact ok_str _, by simp [toPy, PyData.weight]⟩
    | bl b => exact ⟨rfl, by simp [toPy, PyData.showable], by simp [toPy, PyData.leavesShort], by simp only [toPy, PyData.shown]; cases b <;> exact ok_str _, by simp [toPy, PyData.weight]⟩
    | int i =>
      have h0 : i.natAbs < 2 ^ b := by simpa [numB] using h
      have hz : i ≠ 0 → i.natAbs.log2 < b := fun z => (Nat.log2_lt (by omega)).mpr h0
      refine ⟨rfl, ?_, ?_, by simp only [toPy, PyData.shown]; exact ok_str _, ?_⟩
      · simp only [toPy, PyData.showable, decide_eq_true_eq]
        by_cases z : i = 0
        · subst z; decide
        · have := hz z; omega
      · simp only [toPy, PyData.leavesShort, decide_eq_true_eq]
        by_cases z : i = 0
        · subst z
          show (Str.ofString (toString (0 : Int))).length ≤ _
          rw [ofString_length]
          exact Nat.le_trans (show (toString (0 : Int)).length ≤ 1 by decide +kernel) (by omega)
        · have e := int_text_length_le (k := b) (by have := hz z; omega) (hz z)
          show (Str.ofString (toString i)).length ≤ _
          rw [ofString_length]
          exact e
      · simp only [toPy, nodes, PyData.weight]
        by_cases z : i = 0
        · subst z; simp
        · rw [if_neg (by simpa using z)]
          have := hz z
          omega
    | str x =>
      have h : (PyData.strOk x && (PyData.str x).showable && (PyData.str x).leavesShort (b + 1) && PyData.strOk (PyData.str x).shown && decide (x.cps.size ≤ b)) = true := by simpa [numB] using h
      simp only [Bool.and_eq_true, decide_eq_true_eq] at h
      exact ⟨h.1.1.1.1, h.1.1.1.2, h.1.1.2, h.1.2, by simp only [toPy, nodes, PyData.weight]; omega⟩
    | tup xs =>
      obtain ⟨c1, c2, c3, c4, c5⟩ := numB_all (numOkB hb n) xs (by simpa [numB] using h)
      exact ⟨by simp only [fitD]; exact c1, by simp only [toPy, PyData.showable]; exact c2, by simp only [toPy, PyData.leavesShort]; exact c3, by simp only [toPy, PyData.shown]; exact ok_tuple _ c4, by simp only [toPy, nodes, PyData.weight]; exact c5⟩
    | lst xs =>
      obtain ⟨c1, c2, c3, c4, c5⟩ := numB_all (numOkB hb n) xs (by simpa [numB] using h)
      exact ⟨by simp only [fitD]; exact c1, by simp only [toPy, PyData.showable]; exact c2, by simp only [toPy, PyData.leavesShort]; exact c3, by simp only [toPy, PyData.shown]; exact ok_list _ c4, by simp only [toPy, nodes, PyData.weight]; exact c5⟩
    | _ => cases h
/-- repr of data: a text, equal to itself -/
theorem repr_B {d : D} (b : Nat) (hb : b ≤ 1900) (h7 : 7 ≤ b) (h : numB b 12 d = true) (hw : (b + 3) * (nodes 12 d * (b + 1)) + (b + 1) ≤ 16000000) : ∃ s, fRepr [d] = .leaf (.str s) ∧ cNe (.str s) (.str s) = .leaf false ∧ cEq (.str s) (.str s) = .leaf true := by
  obtain ⟨a, c⟩ := numOkB hb 12 d h
  have hl := PyData.shown_le (b + 1) (by omega) _ c.ls
  refine ⟨(toPy 12 d).shown, ?_, (cstr c.ok).1, (cstr c.ok).2⟩
  have e : fRepr [d] = if (fitD 12 d && (toPy 12 d).showable && decide ((toPy 12 d).shown.length ≤ sizeLine)) = true then .leaf (.str (toPy 12 d).shown) else .fail := by
    cases d <;> first | rfl | cases h
  rw [e]
  refine if_pos ?_
  rw [a, c.sh]
  simp only [Bool.and_self, Bool.true_and, decide_eq_true_eq]
  have h2 : (b + 3) * (toPy 12 d).weight ≤ (b + 3) * (nodes 12 d * (b + 1)) := Nat.mul_le_mul_left _ c.wt
  have h3 : (16000000 : Nat) ≤ sizeLine := by decide
  have h4 : (b + 1 + 2) * (toPy 12 d).weight = (b + 3) * (toPy 12 d).weight := rfl
  omega
end R

set_option maxRecDepth 100000
set_option linter.all false
namespace Law
open R PySem L2
open Tree (leaf fail)
local macro_rules | `(tactic| walk_at "ev") => `(tactic| simp only [mDef, En.start, oSeq, oIf, oRet, oSet, oOwn, putOwn_z, putOwn_s, oPar, oNx, oFail, oEx, m2, m1, mA, aCons, aNil, mB, mC, mCh, mT, mNot, mAnd, mOr, mAndV, mOrV, mNotV, mIf, mTup, mLst, mList, asB_b, allS_leaf, wipe_n, wipe_c, wset_z, wset_s, tYesM, oAsg, mLc_1, mLc_2, pairK_t, triK_t, mEnum, mZip, mRange1_b, mRange2_b, oApp, oStore, mOwn_z, mOwn_s, mDefN, oSeqN, mHeard_b, oFrz, frz1_z, frz1_n, frz1_s, oRetN, oSeqX, oRaiseIf, oLift, mDefX, noX, mRevA_b, revK_t, revK_l, oTold_b, oTold0_b, oBk, oCt, oPar3, mCut, mPart, perm_0, perm_01, perm_10, perm_012, perm_021, perm_102, perm_120, perm_201, perm_210, perm_0123, perm_0132, perm_0213, perm_0231, perm_0312, perm_0321, perm_1023, perm_1032, perm_1203, perm_1230, perm_1302, perm_1320, perm_2013, perm_2031, perm_2103, perm_2130, perm_2301, perm_2310, perm_3012, perm_3021, perm_3102, perm_3120, perm_3201, perm_3210, mListR1_b, gPut, gTp, gsCons, gsNil, mSeq, seq_l, seq_t, bind_assoc', bind_leaf, bind_fail, lineOk_1, lineOk_2, lineOk_3, lineOk_s, Nat.reduceLeDiff, mPeek_z, mPeek_s, mVar_z, mVar_s, put_z, put_s, opAdd_i, opSub_i, opNeg_i, cLt_i, cLe_i, cGt_i, cGe_i, cEq_i, cNe_i, fAbs_i, fInt_i, fLen_t, fLen_l, ix0, ix1, Bool.false_eq_true, Bool.not_true, Bool.not_false,
  List.length_cons, List.length_nil, List.map_cons, List.map_nil, List.cons_append, List.nil_append, List.replicate, Nat.reduceAdd, Nat.reduceSub, Nat.zero_add, if_true, if_false, ↓reduceIte])
/-! ### lots with a common bottom -/
structure LotS (S : Nat) (P : List Rat) : Prop where
  q : LotQ P
  pos : 0 < S
  le : S ≤ 8001
  kn : ∀ p ∈ P, Kn S S p
theorem frT_mul {S t : Nat} (h : 0 < S) : frT S t * ((S : Int) : Rat) = ((t : Int) : Rat) := by
  unfold frT
  have := cast_ne (show (S : Int) ≠ 0 by omega)
  generalize ((S : Int) : Rat) = s at *
  generalize ((t : Int) : Rat) = u at *
  grind
theorem sum_frT {S : Nat} (h : 0 < S) : ∀ T : List Nat, (T.map (frT S)).sum * ((S : Int) : Rat) = ((T.sum : Int) : Rat)
  | [] => by simp
  | t :: T => by
    have ih := sum_frT h T
    have e := frT_mul (t := t) h
    rw [List.map_cons, List.sum_cons, List.sum_cons, Rat.add_mul, ih, e, show ((t + T.sum : Nat) : Int) = (t : Int) + (T.sum : Int) from rfl, Rat.intCast_add]
theorem lotS_of {T : List Nat} (h0 : 0 < T.sum) (h1 : T.sum ≤ 8001) (hl : 1 ≤ T.length) (hl8 : T.length ≤ 8) : LotS T.sum (T.map (frT T.sum)) := by
  have hS := cast_ne (show (T.sum : Int) ≠ 0 by omega)
  refine ⟨⟨by rw [List.length_map]; exact hl, by rw [List.length_map]; exact hl8, fun q hq => ?_, ?_, fun q hq => ?_⟩, h0, h1, fun q hq => ?_⟩
  · obtain ⟨t, ht, rfl⟩ := List.mem_map.mp hq
    unfold frT
    rw [Rat.div_def]
    exact Rat.mul_nonneg (by exact_mod_cast (show (0 : Int) ≤ t by omega)) (by
      have : (0 : Rat) < ((T.sum : Int) : Rat) := by exact_mod_cast (show (0 : Int) < T.sum by omega)
      have := Rat.inv_pos.mpr this
      grind)
  · have e := sum_frT h0 T
    generalize ((T.sum : Int) : Rat) = s at *
    grind
  · obtain ⟨t, ht, rfl⟩ := List.mem_map.mp hq
    have z := frT_sz h0 h1 (mem_le_sum ht)
    have e13 : (2 : Nat) ^ 13 = 8192 := by decide
    unfold Sz at z
    rw [e13] at z
    exact ⟨by omega, by omega⟩
  · obtain ⟨t, ht, rfl⟩ := List.mem_map.mp hq
    exact ⟨t, frT_mul h0, by have := mem_le_sum ht; omega⟩
theorem lotL_s {m w : Nat} {d : D} (h : LotL m w d) (m1 : 1 ≤ m) (m8 : m ≤ 8) : ∃ P S, d = lotD P ∧ P.length = m ∧ LotS S P ∧ S ≤ m * w + 1 := by
  obtain ⟨T, rfl, hl, h0, h1, h2⟩ := h.ex
  exact ⟨_, _, rfl, by rw [List.length_map]; exact hl, lotS_of h0 h2 (by omega) (by omega), h1⟩
theorem LotS.sz {S : Nat} {P : List Rat} (h : LotS S P) : ∀ p ∈ P, Sz 13 p := fun p hp => kn_sz (h.kn p hp) h.pos (Nat.lt_of_le_of_lt h.le (by decide)) (Nat.lt_of_le_of_lt h.le (by decide))
/-! ### worths -/
def N12 : Nat := 27720
structure WorthK (M B : Nat) (W : List Rat) : Prop where
  pos : 0 < M
  le : M ≤ 27720
  leB : B ≤ 400000
  kn : ∀ w ∈ W, Kn M B w
theorem WorthK.sz {M B : Nat} {W : List Rat} (h : WorthK M B W) : ∀ w ∈ W, Sz 20 w := fun w hw => kn_sz (h.kn w hw) h.pos (Nat.lt_of_le_of_lt h.le (by decide)) (Nat.lt_of_le_of_lt h.leB (by decide))
theorem kn_sum {N B : Nat} : ∀ L : List Rat, (∀ q ∈ L, Kn N B q) → Kn N (L.length * B) L.sum
  | [], _ => by rw [List.sum_nil, List.length_nil, Nat.zero_mul]; exact kn_zero N
  | q :: L, h => by
    rw [List.sum_cons, List.length_cons, Nat.succ_mul, Nat.add_comm]
    exact kn_add (h q List.mem_cons_self) (kn_sum L fun z hz => h z (List.mem_cons_of_mem _ hz))
/-! ### the law's spread -/
theorem spread_sz {P W : List Rat} {S M B : Nat} (hP : LotS S P) (hW : WorthK M B W) (hl : W.length = P.length) : Sz 102 (z2 (P.zip W) - z1 (P.zip W) * z1 (P.zip W)) := by
  have l8 := hP.q.l8
  have hk : ∀ a ∈ P.zip W, ∀ b ∈ P.zip W, Kn (S * S * (M * M)) (S * S * ((B + B) * (B + B))) (prR a b) := fun a ha b hb => kn_pr (hP.kn _ (List.of_mem_zip ha).1) (hP.kn _ (List.of_mem_zip hb).1) (hW.kn _ (List.of_mem_zip ha).2) (hW.kn _ (List.of_mem_zip hb).2)
  have zl : (P.zip W).length ≤ 8 := zip_len l8
  have n1 : S * S ≤ 8001 * 8001 := Nat.mul_le_mul hP.le hP.le
  have n2 : M * M ≤ 27720 * 27720 := Nat.mul_le_mul hW.le hW.le
  have n3 : (B + B) * (B + B) ≤ 800000 * 800000 := Nat.mul_le_mul (by have := hW.leB; omega) (by have := hW.leB; omega)
  have n4 : S * S * (M * M) ≤ 8001 * 8001 * (27720 * 27720) := Nat.mul_le_mul n1 n2
  have n5 : S * S * ((B + B) * (B + B)) ≤ 8001 * 8001 * (800000 * 800000) := Nat.mul_le_mul n1 n3
  have p0 : 0 < S * S * (M * M) := Nat.mul_pos (Nat.mul_pos hP.pos hP.pos) (Nat.mul_pos hW.pos hW.pos)
  have big : (8001 * 8001 * (800000 * 800000) * 64 : Nat) < 2 ^ 100 := by decide
  have fl : ((P.zip W).map fun v => (P.zip W).map fun z => prR v z).flatten.length ≤ 64 := by
    rw [List.length_flatten, List.map_map]
    have : ((P.zip W).map (List.length ∘ fun v => (P.zip W).map fun z => prR v z)) = (P.zip W).map fun _ => (P.zip W).length := List.map_congr_left fun v _ => by simp
    rw [this, List.map_const', List.sum_replicate_nat]
    exact Nat.mul_le_mul zl zl
  have ks := kn_sum (N := S * S * (M * M)) (B := S * S * ((B + B) * (B + B))) ((P.zip W).map fun v => (P.zip W).map fun z => prR v z).flatten (fun q hq => by
    obtain ⟨l, h1, h2⟩ := List.mem_flatten.mp hq
    obtain ⟨v, hv, rfl⟩ := List.mem_map.mp h1
    obtain ⟨z, hz, rfl⟩ := List.mem_map.mp h2
    exact hk v hv z hz)
  have sz1 := kn_sz ks p0 (n := 100) (by omega) (by
      have := Nat.mul_le_mul fl n5
      omega)
  have hhalf : Sz 2 (1 / 2 : Rat) := ⟨by decide +kernel, by decide +kernel⟩
  have tm := sz_mul sz1 hhalf
  rw [spread_law (P.zip W) (by
    unfold z0
    rw [List.map_fst_zip (by omega)]
    exact hP.q.one)] at tm
  exact tm
theorem lspread_fr {P W : List Rat} {S M B : Nat} {y : D} (hP : LotS S P) (hW : WorthK M B W) (hl : W.length = P.length) (sy : seqOf y = .leaf (W.map fr)) : f_law_spread [lotD P, y] = .leaf (fr (z2 (P.zip W) - z1 (P.zip W) * z1 (P.zip W))) := by
  have l8 := hP.q.l8
  have hz : ∀ z ∈ P.zip W, Sz 40 z.1 ∧ Sz 20 z.2 := fun z h => ⟨(hP.sz _ (List.of_mem_zip h).1).mono (by omega), hW.sz _ (List.of_mem_zip h).2⟩
  have hk : ∀ a ∈ P.zip W, ∀ b ∈ P.zip W, Kn (S * S * (M * M)) (S * S * ((B + B) * (B + B))) (prR a b) := fun a ha b hb => kn_pr (hP.kn _ (List.of_mem_zip ha).1) (hP.kn _ (List.of_mem_zip hb).1) (hW.kn _ (List.of_mem_zip ha).2) (hW.kn _ (List.of_mem_zip hb).2)
  have zl : (P.zip W).length ≤ 8 := zip_len l8
  obtain ⟨c', d', e', f', g', k1⟩ := out_loop (X := lotD P) (Y := y) (Z := P.zip W) hz zl (fun E h h' => by
    rw [zip_at h h' (seq_t _) sy, zip_fr]; rfl) (P.zip W) [] none none none none none hz (by simp; omega)
  rw [List.nil_append] at k1
  have n1 : S * S ≤ 8001 * 8001 := Nat.mul_le_mul hP.le hP.le
  have n2 : M * M ≤ 27720 * 27720 := Nat.mul_le_mul hW.le hW.le
  have n3 : (B + B) * (B + B) ≤ 800000 * 800000 := Nat.mul_le_mul (by have := hW.leB; omega) (by have := hW.leB; omega)
  have n4 : S * S * (M * M) ≤ 8001 * 8001 * (27720 * 27720) := Nat.mul_le_mul n1 n2
  have n5 : S * S * ((B + B) * (B + B)) ≤ 8001 * 8001 * (800000 * 800000) := Nat.mul_le_mul n1 n3
  have p0 : 0 < S * S * (M * M) := Nat.mul_pos (Nat.mul_pos hP.pos hP.pos) (Nat.mul_pos hW.pos hW.pos)
  have big : (8001 * 8001 * (800000 * 800000) * 64 : Nat) < 2 ^ 100 := by decide
  have b4 : (2 : Nat) ^ 100 ≤ 2 ^ 4000 := Nat.pow_le_pow_right (by omega) (by omega)
  have fl : ((P.zip W).map fun v => (P.zip W).map fun z => prR v z).flatten.length ≤ 64 := by
    rw [List.length_flatten, List.map_map]
    have : ((P.zip W).map (List.length ∘ fun v => (P.zip W).map fun z => prR v z)) = (P.zip W).map fun _ => (P.zip W).length := List.map_congr_left fun v _ => by simp
    rw [this, List.map_const', List.sum_replicate_nat]
    exact Nat.mul_le_mul zl zl
  have kt := law_total_k (N := S * S * (M * M)) (B := S * S * ((B + B) * (B + B))) p0 (by omega) ((P.zip W).map fun v => (P.zip W).map fun z => prR v z).flatten (fun q hq => by
    obtain ⟨l, h1, h2⟩ := List.mem_flatten.mp hq
    obtain ⟨v, hv, rfl⟩ := List.mem_map.mp h1
    obtain ⟨z, hz, rfl⟩ := List.mem_map.mp h2
    exact hk v hv z hz) (by
      have := Nat.mul_le_mul fl n5
      omega) (by omega)
  have ks := kn_sum (N := S * S * (M * M)) (B := S * S * ((B + B) * (B + B))) ((P.zip W).map fun v => (P.zip W).map fun z => prR v z).flatten (fun q hq => by
    obtain ⟨l, h1, h2⟩ := List.mem_flatten.mp hq
    obtain ⟨v, hv, rfl⟩ := List.mem_map.mp h1
    obtain ⟨z, hz, rfl⟩ := List.mem_map.mp h2
    exact hk v hv z hz)
  have sz1 := kn_sz ks p0 (n := 100) (by omega) (by
      have := Nat.mul_le_mul fl n5
      omega)
  rw [List.map_flatten, List.map_map] at kt
  have hs : (0 : Rat) < 1 := by decide
  have hhalf : Sz 4000 (1 / 2 : Rat) := Sz.mono (n := 2) ⟨by decide +kernel, by decide +kernel⟩ (by omega)
  have tm := law_times_fr (sz1.mono (m := 4000) (by omega)) hhalf
  rw [spread_law (P.zip W) (by
    unfold z0
    rw [List.map_fst_zip (by omega)]
    exact hP.q.one)] at tm
  rw [show fr (1 / 2 : Rat) = .tup [.int 1, .int 2] by
    unfold fr
    rw [show (1 / 2 : Rat).num = 1 by decide +kernel, show (1 / 2 : Rat).den = 2 by decide +kernel]
    rfl] at tm
  have kf := for_at (mi := mZip (mVar 0) (mVar 1)) (g := gTp 2 (gsCons (gPut 3) (gsCons (gPut 4) gsNil))) (E := [some ⟨false, lotD P⟩, some ⟨false, y⟩, some ⟨true, .lst []⟩, none, none, none, none, none]) (by
    rw [zip_at rfl rfl (seq_t _) sy, zip_fr]; rfl) k1
  unfold bIn at kf
  have e1 : (List.map fr ∘ fun v => List.map (fun z => prR v z) (P.zip W)) = fun v => (P.zip W).map fun z => fr (prR v z) := funext fun v => by rw [Function.comp, List.map_map]; rfl
  rw [e1] at kt
  clear hz hk ks sz1 k1 hP hW fl n1 n2 n3 n4 n5 big b4 p0 hhalf hs
  unfold f_law_spread b_law_spread
  generalize (List.map (fun v => List.map (fun z => fr (prR v z)) (P.zip W)) (P.zip W)).flatten = zs at *
  generalize oFor = ff at *
  generalize mZip = mz at *
  generalize f_law_total = f1 at *
  generalize f_law_times = f2 at *
  simp only [mDef, En.start, oSeq, oIf, oRet, oSet, oOwn, putOwn_z, putOwn_s, oPar, oNx, oFail, oEx, _root_.R.m2, _root_.R.m1, _root_.R.mA, aCons, aNil, _root_.R.mB, _root_.R.mC, mCh, _root_.R.mT, mNot, mAnd, mOr, mAndV, mOrV, mNotV, mIf, mTup, mLst, mList, asB_b, allS_leaf, wipe_n, wipe_c, wset_z, wset_s, tYesM, oAsg, mLc_1, mLc_2, pairK_t, triK_t, mEnum, mZip, mRange1_b, mRange2_b, oApp, oStore, mOwn_z, mOwn_s, mDefN, oSeqN, mHeard_b, oFrz, frz1_z, frz1_n, frz1_s, oRetN, oSeqX, oRaiseIf, oLift, mDefX, noX, mRevA_b, revK_t, revK_l, oTold_b, oTold0_b, oBk, oCt, oPar3, mCut, mPart, perm_0, perm_01, perm_10, perm_012, perm_021, perm_102, perm_120, perm_201, perm_210, perm_0123, perm_0132, perm_0213, perm_0231, perm_0312, perm_0321, perm_1023, perm_1032, perm_1203, perm_1230, perm_1302, perm_1320, perm_2013, perm_2031, perm_2103, perm_2130, perm_2301, perm_2310, perm_3012, perm_3021, perm_3102, perm_3120, perm_3201, perm_3210, mListR1_b, gPut, gTp, gsCons, gsNil, mSeq, seq_l, seq_t, bind_assoc', bind_leaf, bind_fail, lineOk_1, lineOk_2, lineOk_3, lineOk_s, Nat.reduceLeDiff, mPeek_z, mPeek_s, mVar_z, mVar_s, put_z, put_s, opAdd_i, opSub_i, opNeg_i, cLt_i, cLe_i, cGt_i, cGe_i, cEq_i, cNe_i, fAbs_i, fInt_i, fLen_t, fLen_l, ix0, ix1, Bool.false_eq_true, Bool.not_true, Bool.not_false, List.length_cons, List.length_nil, List.map_cons, List.map_nil, List.cons_append, List.nil_append, List.replicate, Nat.reduceAdd, Nat.reduceSub, Nat.zero_add, if_true, if_false, ↓reduceIte, kf, kt, tm]
end Law

set_option maxRecDepth 100000
set_option linter.all false
namespace Law
open R PySem L2
open Tree (leaf fail)
local macro_rules | `(tactic| walk_at "ev") => `(tactic| simp only [mDef, En.start, oSeq, oIf, oRet, oSet, oOwn, putOwn_z, putOwn_s, oPar, oNx, oFail, oEx, m2, m1, mA, aCons, aNil, mB, mC, mCh, mT, mNot, mAnd, mOr, mAndV, mOrV, mNotV, mIf, mTup, mLst, mList, asB_b, allS_leaf, wipe_n, wipe_c, wset_z, wset_s, tYesM, oAsg, mLc_1, mLc_2, pairK_t, triK_t, mEnum, mZip, mRange1_b, mRange2_b, oApp, oStore, mOwn_z, mOwn_s, mDefN, oSeqN, mHeard_b, oFrz, frz1_z, frz1_n, frz1_s, oRetN, oSeqX, oRaiseIf, oLift, mDefX, noX, mRevA_b, revK_t, revK_l, oTold_b, oTold0_b, oBk, oCt, oPar3, mCut, mPart, perm_0, perm_01, perm_10, perm_012, perm_021, perm_102, perm_120, perm_201, perm_210, perm_0123, perm_0132, perm_0213, perm_0231, perm_0312, perm_0321, perm_1023, perm_1032, perm_1203, perm_1230, perm_1302, perm_1320, perm_2013, perm_2031, perm_2103, perm_2130, perm_2301, perm_2310, perm_3012, perm_3021, perm_3102, perm_3120, perm_3201, perm_3210, mListR1_b, gPut, gTp, gsCons, gsNil, mSeq, seq_l, seq_t, bind_assoc', bind_leaf, bind_fail, lineOk_1, lineOk_2, lineOk_3, lineOk_s, Nat.reduceLeDiff, mPeek_z, mPeek_s, mVar_z, mVar_s, put_z, put_s, opAdd_i, opSub_i, opNeg_i, cLt_i, cLe_i, cGt_i, cGe_i, cEq_i, cNe_i, fAbs_i, fInt_i, fLen_t, fLen_l, ix0, ix1, Bool.false_eq_true, Bool.not_true, Bool.not_false,
  List.length_cons, List.length_nil, List.map_cons, List.map_nil, List.cons_append, List.nil_append, List.replicate, Nat.reduceAdd, Nat.reduceSub, Nat.zero_add, if_true, if_false, ↓reduceIte])
/-! ### lists or tuples -/
def Sq (y : D) (xs : List D) : Prop := y = .lst xs ∨ y = .tup xs
theorem Sq.seq {y : D} {xs : List D} (h : Sq y xs) : seqOf y = .leaf xs := by rcases h with rfl | rfl <;> rfl
theorem Sq.len {y : D} {xs : List D} (h : Sq y xs) : fLen [y] = .leaf (.int xs.length) := by rcases h with rfl | rfl <;> rfl
theorem Sq.isi {y : D} {xs : List D} (h : Sq y xs) : fIsi [y, .tup [.ty "list", .ty "tuple"]] = .leaf (.bl true) := by rcases h with rfl | rfl <;> rfl
theorem Sq.isl {y : D} {xs : List D} (h : Sq y xs) : f_is_list [y] = .leaf (.bl true) := by
  have k := h.isi
  unfold f_is_list b_is_list
  simp only [mDef, En.start, oSeq, oIf, oRet, oSet, oOwn, putOwn_z, putOwn_s, oPar, oNx, oFail, oEx, _root_.R.m2, _root_.R.m1, _root_.R.mA, aCons, aNil, _root_.R.mB, _root_.R.mC, mCh, _root_.R.mT, mNot, mAnd, mOr, mAndV, mOrV, mNotV, mIf, mTup, mLst, mList, asB_b, allS_leaf, wipe_n, wipe_c, wset_z, wset_s, tYesM, oAsg, mLc_1, mLc_2, pairK_t, triK_t, mEnum, mZip, mRange1_b, mRange2_b, oApp, oStore, mOwn_z, mOwn_s, mDefN, oSeqN, mHeard_b, oFrz, frz1_z, frz1_n, frz1_s, oRetN, oSeqX, oRaiseIf, oLift, mDefX, noX, mRevA_b, revK_t, revK_l, oTold_b, oTold0_b, oBk, oCt, oPar3, mCut, mPart, perm_0, perm_01, perm_10, perm_012, perm_021, perm_102, perm_120, perm_201, perm_210, perm_0123, perm_0132, perm_0213, perm_0231, perm_0312, perm_0321, perm_1023, perm_1032, perm_1203, perm_1230, perm_1302, perm_1320, perm_2013, perm_2031, perm_2103, perm_2130, perm_2301, perm_2310, perm_3012, perm_3021, perm_3102, perm_3120, perm_3201, perm_3210, mListR1_b, gPut, gTp, gsCons, gsNil, mSeq, seq_l, seq_t, bind_assoc', bind_leaf, bind_fail, lineOk_1, lineOk_2, lineOk_3, lineOk_s, Nat.reduceLeDiff, mPeek_z, mPeek_s, mVar_z, mVar_s, put_z, put_s, opAdd_i, opSub_i, opNeg_i, cLt_i, cLe_i, cGt_i, cGe_i, cEq_i, cNe_i, fAbs_i, fInt_i, fLen_t, fLen_l, ix0, ix1, Bool.false_eq_true, Bool.not_true, Bool.not_false, List.length_cons, List.length_nil, List.map_cons, List.map_nil, List.cons_append, List.nil_append, List.replicate, Nat.reduceAdd, Nat.reduceSub, Nat.zero_add, if_true, if_false, ↓reduceIte, k]
theorem Sq.ix {y : D} {xs : List D} (h : Sq y xs) {k : Nat} (hk : k < xs.length) : opIx y (.int (k : Int)) = .leaf (xs.getD k .non) := by
  rcases h with rfl | rfl
  · exact (opIx_lt hk).1
  · exact (opIx_lt hk).2
theorem fTuple_l (xs : List D) : fTuple [.lst xs] = .leaf (.tup xs) := rfl
/-! ### drawn fractions -/
theorem dvd27720 : ∀ k : Nat, 1 ≤ k → k ≤ 12 → ∃ c : Nat, 27720 = c * k ∧ c ≤ 27720 := by
  intro k h1 h2
  refine ⟨27720 / k, ?_, Nat.div_le_self _ _⟩
  have : ∀ k : Fin 13, k.val ≠ 0 → 27720 = 27720 / k.val * k.val := by decide +kernel
  exact this ⟨k, by omega⟩ (by simpa using by omega)
theorem kn_frac {t : Int} {b : Nat} (h1 : 1 ≤ b) (h2 : b ≤ 12) (h3 : t.natAbs ≤ 12) : Kn 27720 332640 ((t : Rat) / (((b : Nat) : Int) : Rat)) := by
  obtain ⟨c, e, hc⟩ := dvd27720 b h1 h2
  refine ⟨t * c, ?_, by rw [Int.natAbs_mul]; have := Nat.mul_le_mul h3 (show (c : Int).natAbs ≤ 27720 by omega); omega⟩
  have hb := cast_ne (show ((b : Nat) : Int) ≠ 0 by omega)
  rw [e, show (((c * b : Nat) : Int) : Rat) = ((c : Int) : Rat) * (((b : Nat) : Int) : Rat) by rw [← Rat.intCast_mul]; congr 1, Rat.intCast_mul]
  generalize (((b : Nat) : Int) : Rat) = z at *
  grind
theorem lfrac_S {m : Int} (m1 : 1 ≤ m) (m2 : m ≤ 12) : AllS (fun d => ∃ w, d = fr w ∧ Kn 27720 332640 w) (f_law_fraction [.pot, .int m]) := by
  have d1 := drS (2 * m + 1) (by omega) (by omega)
  have d2 := drS m (by omega) (by omega)
  have o1 := opMul_i (i := 2) (j := m) (bb100 (by decide)) (bb100 (by omega))
  have pl : ∀ i j : Int, 0 ≤ i → i < 2 * m + 1 → 0 ≤ j → j < m → f_law_plain [.int (i - m), .int (1 + j)] = .leaf (fr (((i - m : Int) : Rat) / ((1 + j : Int) : Rat))) := fun i j _ _ _ _ => law_plain_fr (by omega) (bb100 (by omega)) (bb100 (by omega))
  have kk : ∀ i j : Int, 0 ≤ i → i < 2 * m + 1 → 0 ≤ j → j < m → Kn 27720 332640 (((i - m : Int) : Rat) / ((1 + j : Int) : Rat)) := fun i j _ _ _ _ => by
    have := kn_frac (t := i - m) (b := (1 + j).toNat) (by omega) (by omega) (by omega)
    rwa [Int.toNat_of_nonneg (by omega)] at this
  unfold f_law_fraction b_law_fraction
  simp only [mDef, En.start, oSeq, oIf, oRet, oSet, oOwn, putOwn_z, putOwn_s, oPar, oNx, oFail, oEx, _root_.R.m2, _root_.R.m1, _root_.R.mA, aCons, aNil, _root_.R.mB, _root_.R.mC, mCh, _root_.R.mT, mNot, mAnd, mOr, mAndV, mOrV, mNotV, mIf, mTup, mLst, mList, asB_b, allS_leaf, wipe_n, wipe_c, wset_z, wset_s, tYesM, oAsg, mLc_1, mLc_2, pairK_t, triK_t, mEnum, mZip, mRange1_b, mRange2_b, oApp, oStore, mOwn_z, mOwn_s, mDefN, oSeqN, mHeard_b, oFrz, frz1_z, frz1_n, frz1_s, oRetN, oSeqX, oRaiseIf, oLift, mDefX, noX, mRevA_b, revK_t, revK_l, oTold_b, oTold0_b, oBk, oCt, oPar3, mCut, mPart, perm_0, perm_01, perm_10, perm_012, perm_021, perm_102, perm_120, perm_201, perm_210, perm_0123, perm_0132, perm_0213, perm_0231, perm_0312, perm_0321, perm_1023, perm_1032, perm_1203, perm_1230, perm_1302, perm_1320, perm_2013, perm_2031, perm_2103, perm_2130, perm_2301, perm_2310, perm_3012, perm_3021, perm_3102, perm_3120, perm_3201, perm_3210, mListR1_b, gPut, gTp, gsCons, gsNil, mSeq, seq_l, seq_t, bind_assoc', bind_leaf, bind_fail, lineOk_1, lineOk_2, lineOk_3, lineOk_s, Nat.reduceLeDiff, mPeek_z, mPeek_s, mVar_z, mVar_s, put_z, put_s, opAdd_i, opSub_i, opNeg_i, cLt_i, cLe_i, cGt_i, cGe_i, cEq_i, cNe_i, fAbs_i, fInt_i, fLen_t, fLen_l, ix0, ix1, Bool.false_eq_true, Bool.not_true, Bool.not_false, List.length_cons, List.length_nil, List.map_cons, List.map_nil, List.cons_append, List.nil_append, List.replicate, Nat.reduceAdd, Nat.reduceSub, Nat.zero_add, if_true, if_false, ↓reduceIte, o1]
  rw [allS_bind]
  refine allS_go d1 fun i i0 i1 => ?_
  simp only [mDef, En.start, oSeq, oIf, oRet, oSet, oOwn, putOwn_z, putOwn_s, oPar, oNx, oFail, oEx, _root_.R.m2, _root_.R.m1, _root_.R.mA, aCons, aNil, _root_.R.mB, _root_.R.mC, mCh, _root_.R.mT, mNot, mAnd, mOr, mAndV, mOrV, mNotV, mIf, mTup, mLst, mList, asB_b, allS_leaf, wipe_n, wipe_c, wset_z, wset_s, tYesM, oAsg, mLc_1, mLc_2, pairK_t, triK_t, mEnum, mZip, mRange1_b, mRange2_b, oApp, oStore, mOwn_z, mOwn_s, mDefN, oSeqN, mHeard_b, oFrz, frz1_z, frz1_n, frz1_s, oRetN, oSeqX, oRaiseIf, oLift, mDefX, noX, mRevA_b, revK_t, revK_l, oTold_b, oTold0_b, oBk, oCt, oPar3, mCut, mPart, perm_0, perm_01, perm_10, perm_012, perm_021, perm_102, perm_120, perm_201, perm_210, perm_0123, perm_0132, perm_0213, perm_0231, perm_0312, perm_0321, perm_1023, perm_1032, perm_1203, perm_1230, perm_1302, perm_1320, perm_2013, perm_2031, perm_2103, perm_2130, perm_2301, perm_2310, perm_3012, perm_3021, perm_3102, perm_3120, perm_3201, perm_3210, mListR1_b, gPut, gTp, gsCons, gsNil, mSeq, seq_l, seq_t, bind_assoc', bind_leaf, bind_fail, lineOk_1, lineOk_2, lineOk_3, lineOk_s, Nat.reduceLeDiff, mPeek_z, mPeek_s, mVar_z, mVar_s, put_z, put_s, opAdd_i, opSub_i, opNeg_i, cLt_i, cLe_i, cGt_i, cGe_i, cEq_i, cNe_i, fAbs_i, fInt_i, fLen_t, fLen_l, ix0, ix1, Bool.false_eq_true, Bool.not_true, Bool.not_false, List.length_cons, List.length_nil, List.map_cons, List.map_nil, List.cons_append, List.nil_append, List.replicate, Nat.reduceAdd, Nat.reduceSub, Nat.zero_add, if_true, if_false, ↓reduceIte]
  rw [allS_bind]
  refine allS_go d2 fun j j0 j1 => ?_
  simp only [mDef, En.start, oSeq, oIf, oRet, oSet, oOwn, putOwn_z, putOwn_s, oPar, oNx, oFail, oEx, _root_.R.m2, _root_.R.m1, _root_.R.mA, aCons, aNil, _root_.R.mB, _root_.R.mC, mCh, _root_.R.mT, mNot, mAnd, mOr, mAndV, mOrV, mNotV, mIf, mTup, mLst, mList, asB_b, allS_leaf, wipe_n, wipe_c, wset_z, wset_s, tYesM, oAsg, mLc_1, mLc_2, pairK_t, triK_t, mEnum, mZip, mRange1_b, mRange2_b, oApp, oStore, mOwn_z, mOwn_s, mDefN, oSeqN, mHeard_b, oFrz, frz1_z, frz1_n, frz1_s, oRetN, oSeqX, oRaiseIf, oLift, mDefX, noX, mRevA_b, revK_t, revK_l, oTold_b, oTold0_b, oBk, oCt, oPar3, mCut, mPart, perm_0, perm_01, perm_10, perm_012, perm_021, perm_102, perm_120, perm_201, perm_210, perm_0123, perm_0132, perm_0213, perm_0231, perm_0312, perm_0321, perm_1023, perm_1032, perm_1203, perm_1230, perm_1302, perm_1320, perm_2013, perm_2031, perm_2103, perm_2130, perm_2301, perm_2310, perm_3012, perm_3021, perm_3102, perm_3120, perm_3201, perm_3210, mListR1_b, gPut, gTp, gsCons, gsNil, mSeq, seq_l, seq_t, bind_assoc', bind_leaf, bind_fail, lineOk_1, lineOk_2, lineOk_3, lineOk_s, Nat.reduceLeDiff, mPeek_z, mPeek_s, mVar_z, mVar_s, put_z, put_s, opAdd_i, opSub_i, opNeg_i, cLt_i, cLe_i, cGt_i, cGe_i, cEq_i, cNe_i, fAbs_i, fInt_i, fLen_t, fLen_l, ix0, ix1, Bool.false_eq_true, Bool.not_true, Bool.not_false, List.length_cons, List.length_nil, List.map_cons, List.map_nil, List.cons_append, List.nil_append, List.replicate, Nat.reduceAdd, Nat.reduceSub, Nat.zero_add, if_true, if_false, ↓reduceIte, pl i j i0 i1 j0 j1]
  exact ⟨_, rfl, kk i j i0 i1 j0 j1⟩
theorem kn_sh {N M : Nat} {q : Rat} (h : Kn N M q) (h0 : 0 < N) (h1 : N < 10 ^ 12) (h2 : M < 10 ^ 12) : Sh q := by
  obtain ⟨k, e, hk⟩ := h
  have hn := cast_ne (show (N : Int) ≠ 0 by omega)
  have eq : q = (k : Rat) / ((N : Int) : Rat) := by
    generalize ((N : Int) : Rat) = z at *
    grind
  obtain ⟨p, d, g, e, h3, h4, h5, h6, h7, h8, _⟩ := fq_parts k (N : Int) (by omega)
  rw [fq_fr (by omega), ← eq] at e
  unfold fr at e
  simp only [D.tup.injEq, List.cons.injEq, D.int.injEq, and_true] at e
  exact ⟨by rw [e.1]; omega, by have := e.2; omega⟩
theorem chkworths {y : D} {W : List Rat} (h : Sq y (W.map fr)) (hs : ∀ w ∈ W, Sh w) (hl : W.length ≤ 100) : f_check_worths [.int (W.length : Int), y] = .leaf .non := by
  have h1 := h.isl
  have h2 := h.len
  have h3 := h.seq
  rw [List.length_map] at h2
  have e : cEq (.int (W.length : Int)) (.int (W.length : Int)) = .leaf true := by rw [cEq_i]; simp
  have c1 : lck (fun _ => .leaf true) (fun d => f_is_short [d]) (W.map fr) = .leaf (W.map fun _ => .bl true) := lck_map _ hl fun w hw => ⟨rfl, short_fr (hs w hw)⟩
  have a1 := all_true W
  have k : f_are_worths [.int (W.length : Int), y] = .leaf (.bl true) := by
    unfold f_are_worths b_are_worths
    simp only [mDef, En.start, oSeq, oIf, oRet, oSet, oOwn, putOwn_z, putOwn_s, oPar, oNx, oFail, oEx, _root_.R.m2, _root_.R.m1, _root_.R.mA, aCons, aNil, _root_.R.mB, _root_.R.mC, mCh, _root_.R.mT, mNot, mAnd, mOr, mAndV, mOrV, mNotV, mIf, mTup, mLst, mList, asB_b, allS_leaf, wipe_n, wipe_c, wset_z, wset_s, tYesM, oAsg, mLc_1, mLc_2, pairK_t, triK_t, mEnum, mZip, mRange1_b, mRange2_b, oApp, oStore, mOwn_z, mOwn_s, mDefN, oSeqN, mHeard_b, oFrz, frz1_z, frz1_n, frz1_s, oRetN, oSeqX, oRaiseIf, oLift, mDefX, noX, mRevA_b, revK_t, revK_l, oTold_b, oTold0_b, oBk, oCt, oPar3, mCut, mPart, perm_0, perm_01, perm_10, perm_012, perm_021, perm_102, perm_120, perm_201, perm_210, perm_0123, perm_0132, perm_0213, perm_0231, perm_0312, perm_0321, perm_1023, perm_1032, perm_1203, perm_1230, perm_1302, perm_1320, perm_2013, perm_2031, perm_2103, perm_2130, perm_2301, perm_2310, perm_3012, perm_3021, perm_3102, perm_3120, perm_3201, perm_3210, mListR1_b, gPut, gTp, gsCons, gsNil, mSeq, seq_l, seq_t, bind_assoc', bind_leaf, bind_fail, lineOk_1, lineOk_2, lineOk_3, lineOk_s, Nat.reduceLeDiff, mPeek_z, mPeek_s, mVar_z, mVar_s, put_z, put_s, opAdd_i, opSub_i, opNeg_i, cLt_i, cLe_i, cGt_i, cGe_i, cEq_i, cNe_i, fAbs_i, fInt_i, fLen_t, fLen_l, ix0, ix1, Bool.false_eq_true, Bool.not_true, Bool.not_false, List.length_cons, List.length_nil, List.map_cons, List.map_nil, List.cons_append, List.nil_append, List.replicate, Nat.reduceAdd, Nat.reduceSub, Nat.zero_add, if_true, if_false, ↓reduceIte, h1, h2, h3, e, c1, a1]
  unfold f_check_worths b_check_worths
  simp only [mDef, En.start, oSeq, oIf, oRet, oSet, oOwn, putOwn_z, putOwn_s, oPar, oNx, oFail, oEx, _root_.R.m2, _root_.R.m1, _root_.R.mA, aCons, aNil, _root_.R.mB, _root_.R.mC, mCh, _root_.R.mT, mNot, mAnd, mOr, mAndV, mOrV, mNotV, mIf, mTup, mLst, mList, asB_b, allS_leaf, wipe_n, wipe_c, wset_z, wset_s, tYesM, oAsg, mLc_1, mLc_2, pairK_t, triK_t, mEnum, mZip, mRange1_b, mRange2_b, oApp, oStore, mOwn_z, mOwn_s, mDefN, oSeqN, mHeard_b, oFrz, frz1_z, frz1_n, frz1_s, oRetN, oSeqX, oRaiseIf, oLift, mDefX, noX, mRevA_b, revK_t, revK_l, oTold_b, oTold0_b, oBk, oCt, oPar3, mCut, mPart, perm_0, perm_01, perm_10, perm_012, perm_021, perm_102, perm_120, perm_201, perm_210, perm_0123, perm_0132, perm_0213, perm_0231, perm_0312, perm_0321, perm_1023, perm_1032, perm_1203, perm_1230, perm_1302, perm_1320, perm_2013, perm_2031, perm_2103, perm_2130, perm_2301, perm_2310, perm_3012, perm_3021, perm_3102, perm_3120, perm_3201, perm_3210, mListR1_b, gPut, gTp, gsCons, gsNil, mSeq, seq_l, seq_t, bind_assoc', bind_leaf, bind_fail, lineOk_1, lineOk_2, lineOk_3, lineOk_s, Nat.reduceLeDiff, mPeek_z, mPeek_s, mVar_z, mVar_s, put_z, put_s, opAdd_i, opSub_i, opNeg_i, cLt_i, cLe_i, cGt_i, cGe_i, cEq_i, cNe_i, fAbs_i, fInt_i, fLen_t, fLen_l, ix0, ix1, Bool.false_eq_true, Bool.not_true, Bool.not_false, List.length_cons, List.length_nil, List.map_cons, List.map_nil, List.cons_append, List.nil_append, List.replicate, Nat.reduceAdd, Nat.reduceSub, Nat.zero_add, if_true, if_false, ↓reduceIte, k]
end Law

set_option maxRecDepth 100000
set_option linter.all false
namespace Law
open R PySem L2
open Tree (leaf fail)
local macro_rules | `(tactic| walk_at "ev") => `(tactic| simp only [mDef, En.start, oSeq, oIf, oRet, oSet, oOwn, putOwn_z, putOwn_s, oPar, oNx, oFail, oEx, m2, m1, mA, aCons, aNil, mB, mC, mCh, mT, mNot, mAnd, mOr, mAndV, mOrV, mNotV, mIf, mTup, mLst, mList, asB_b, allS_leaf, wipe_n, wipe_c, wset_z, wset_s, tYesM, oAsg, mLc_1, mLc_2, pairK_t, triK_t, mEnum, mZip, mRange1_b, mRange2_b, oApp, oStore, mOwn_z, mOwn_s, mDefN, oSeqN, mHeard_b, oFrz, frz1_z, frz1_n, frz1_s, oRetN, oSeqX, oRaiseIf, oLift, mDefX, noX, mRevA_b, revK_t, revK_l, oTold_b, oTold0_b, oBk, oCt, oPar3, mCut, mPart, perm_0, perm_01, perm_10, perm_012, perm_021, perm_102, perm_120, perm_201, perm_210, perm_0123, perm_0132, perm_0213, perm_0231, perm_0312, perm_0321, perm_1023, perm_1032, perm_1203, perm_1230, perm_1302, perm_1320, perm_2013, perm_2031, perm_2103, perm_2130, perm_2301, perm_2310, perm_3012, perm_3021, perm_3102, perm_3120, perm_3201, perm_3210, mListR1_b, gPut, gTp, gsCons, gsNil, mSeq, seq_l, seq_t, bind_assoc', bind_leaf, bind_fail, lineOk_1, lineOk_2, lineOk_3, lineOk_s, Nat.reduceLeDiff, mPeek_z, mPeek_s, mVar_z, mVar_s, put_z, put_s, opAdd_i, opSub_i, opNeg_i, cLt_i, cLe_i, cGt_i, cGe_i, cEq_i, cNe_i, fAbs_i, fInt_i, fLen_t, fLen_l, ix0, ix1, Bool.false_eq_true, Bool.not_true, Bool.not_false,
  List.length_cons, List.length_nil, List.map_cons, List.map_nil, List.cons_append, List.nil_append, List.replicate, Nat.reduceAdd, Nat.reduceSub, Nat.zero_add, if_true, if_false, ↓reduceIte])
/-! ### places -/
theorem nodupB_of : ∀ S : List Nat, S.Nodup → nodupB (S.map fun t : Nat => (t : Int)) = true
  | [], _ => rfl
  | t :: S, h => by
    rw [List.nodup_cons] at h
    rw [List.map_cons]
    unfold nodupB
    rw [nodupB_of S h.2, Bool.and_true, Bool.not_eq_true', ← Bool.not_eq_true, List.contains_iff_mem]
    intro hm
    obtain ⟨x, hx, e⟩ := List.mem_map.mp hm
    have : x = t := by omega
    exact h.1 (this ▸ hx)
structure Pls (y : D) (S : List Nat) (m : Nat) : Prop where
  sq : Sq y (iL S)
  nd : S.Nodup
  lt : ∀ i ∈ S, i < m
theorem Pls.pl {y : D} {S : List Nat} {m : Nat} (h : Pls y S m) (hl : S.length ≤ 8) : PlD y S m where
  sq := h.sq.seq
  isl := h.sq.isi
  ln := by rw [h.sq.len, iL_len]
  ls := by
    have e : lenSetI (iL S) = .leaf (.int (S.length : Int)) := by
      unfold lenSetI
      rw [iL_sum]
      show (if (nodupB (S.map fun t : Nat => (t : Int)) && decide ((S.map fun t : Nat => (t : Int)).length ≤ 4000)) = true then Tree.leaf (D.int (S.map fun t : Nat => (t : Int)).length) else .fail) = _
      rw [nodupB_of S h.nd, List.length_map, decide_eq_true (by omega)]
      rfl
    rcases h.sq with rfl | rfl
    · exact e
    · exact e
  lt := h.lt
  l8 := hl
theorem in_pl {y : D} {S : List Nat} (h : Sq y (iL S)) (neg : Bool) (i : Nat) : cIn neg (.int (i : Int)) y = .leaf (if neg then !decide (i ∈ S) else decide (i ∈ S)) := by
  have e : inB (.int (i : Int)) (iL S) = .leaf (decide (i ∈ S)) := by
    have f1 : (iL S).all flatD = true := by
      unfold iL
      rw [List.all_map]
      simp [flatD]
    have f2 : ((iL S).any fun e => eqD 1 e (.int (i : Int))) = decide (i ∈ S) := by
      unfold iL
      rw [List.any_map, Bool.eq_iff_iff, List.any_eq_true, decide_eq_true_eq]
      constructor
      · rintro ⟨x, hx, hh⟩
        have hh : ((x : Int) == (i : Int)) = true := hh
        have : x = i := by have := beq_iff_eq.mp hh; omega
        exact this ▸ hx
      · intro hi
        exact ⟨i, hi, beq_self_eq_true (i : Int)⟩
    unfold inB
    rw [f1, f2]
    rfl
  rcases h with rfl | rfl
  · show (inB _ _).bind _ = _
    rw [e]; rfl
  · show (inB _ _).bind _ = _
    rw [e]; rfl
/-! ### given some places -/
def givenR (P : List Rat) (S : List Nat) : List Rat := (List.range P.length).map fun i => if i ∈ S then P.getD i 0 / hasR P S else 0
theorem cEq_0 (q : Rat) : cEq (.int q.num) (.int 0) = .leaf (decide (q = 0)) := by
  rw [cEq_i]
  congr 1
  rw [Bool.eq_iff_iff, beq_iff_eq, decide_eq_true_eq]
  exact Rat.num_eq_zero
theorem fr_0 (q : Rat) : opIx (fr q) (.int 0) = .leaf (.int q.num) := ix0 _ _
theorem fr_1 (q : Rat) : opIx (fr q) (.int 1) = .leaf (.int q.den) := ix1 _ _ _
theorem zipIdx_range (P : List Rat) : P.zipIdx = (List.range P.length).map fun i => (P.getD i 0, i) := by
  refine List.ext_getElem (by simp) fun i h1 h2 => ?_
  simp at h1
  simp [h1]
theorem enum_lotD (P : List Rat) : enumD 0 (P.map fr) = (List.range P.length).map fun i : Nat => .tup [.int (i : Int), fr (P.getD i 0)] := by
  rw [enum_gen fr P 0, zipIdx_range, List.map_map]
  rfl
theorem given_g {S0 : Nat} {P : List Rat} {y : D} {S : List Nat} (hP : LotS S0 P) (h : Pls y S P.length) (hl : S.length ≤ 8) (h0 : 0 ≤ hasR P S) (hs : Sz 13 (hasR P S)) : g_given_that [lotD P, y] = .leaf (if hasR P S = 0 then none else some (lotD (givenR P S))) := by
  have k1 := checklot_fr hP.q
  have k2 := len_lot P
  have k3 := places_eq (h.pl hl)
  have k4 := hasof_fr hP.q (h.pl hl)
  have k5 := fr_0 (hasR P S)
  have k6 := cEq_0 (hasR P S)
  have sq : seqOf (lotD P) = .leaf (P.map fr) := rfl
  have el := enum_lotD P
  have hl8 := hP.q.l8
  by_cases z : hasR P S = 0
  · rw [if_pos z]
    rw [decide_eq_true z] at k6
    unfold g_given_that b_given_that
    simp only [mDef, En.start, oSeq, oIf, oRet, oSet, oOwn, putOwn_z, putOwn_s, oPar, oNx, oFail, oEx, _root_.R.m2, _root_.R.m1, _root_.R.mA, aCons, aNil, _root_.R.mB, _root_.R.mC, mCh, _root_.R.mT, mNot, mAnd, mOr, mAndV, mOrV, mNotV, mIf, mTup, mLst, mList, asB_b, allS_leaf, wipe_n, wipe_c, wset_z, wset_s, tYesM, oAsg, mLc_1, mLc_2, pairK_t, triK_t, mEnum, mZip, mRange1_b, mRange2_b, oApp, oStore, mOwn_z, mOwn_s, mDefN, oSeqN, mHeard_b, oFrz, frz1_z, frz1_n, frz1_s, oRetN, oSeqX, oRaiseIf, oLift, mDefX, noX, mRevA_b, revK_t, revK_l, oTold_b, oTold0_b, oBk, oCt, oPar3, mCut, mPart, perm_0, perm_01, perm_10, perm_012, perm_021, perm_102, perm_120, perm_201, perm_210, perm_0123, perm_0132, perm_0213, perm_0231, perm_0312, perm_0321, perm_1023, perm_1032, perm_1203, perm_1230, perm_1302, perm_1320, perm_2013, perm_2031, perm_2103, perm_2130, perm_2301, perm_2310, perm_3012, perm_3021, perm_3102, perm_3120, perm_3201, perm_3210, mListR1_b, gPut, gTp, gsCons, gsNil, mSeq, seq_l, seq_t, bind_assoc', bind_leaf, bind_fail, lineOk_1, lineOk_2, lineOk_3, lineOk_s, Nat.reduceLeDiff, mPeek_z, mPeek_s, mVar_z, mVar_s, put_z, put_s, opAdd_i, opSub_i, opNeg_i, cLt_i, cLe_i, cGt_i, cGe_i, cEq_i, cNe_i, fAbs_i, fInt_i, fLen_t, fLen_l, ix0, ix1, Bool.false_eq_true, Bool.not_true, Bool.not_false, List.length_cons, List.length_nil, List.map_cons, List.map_nil, List.cons_append, List.nil_append, List.replicate, Nat.reduceAdd, Nat.reduceSub, Nat.zero_add, if_true, if_false, ↓reduceIte, k1, k2, k3, k4, k5, k6]
  · rw [if_neg z]
    rw [decide_eq_false z] at k6
    have c1 := lck_map (β := Nat) (L := List.range P.length) (fun i => fr (if i ∈ S then P.getD i 0 / hasR P S else 0)) (mt := pairK fun _ _ => .leaf true) (me := pairK fun a b => (cIn false a y).bind fun c => if c = true then f_divide [b, fr (hasR P S)] else .leaf (.tup [.int 0, .int 1])) (dx := fun i : Nat => .tup [.int (i : Int), fr (P.getD i 0)]) (by rw [List.length_range]; omega) (fun i hi => by
      have hi := List.mem_range.mp hi
      rw [pairK_t, pairK_t, in_pl h.sq]
      refine ⟨rfl, ?_⟩
      rw [bind_leaf]
      by_cases m : i ∈ S
      · rw [decide_eq_true m, if_pos m]
        exact divide_fr ((hP.sz _ (getD_mem hi)).mono (by omega)) (hs.mono (by omega)) (by grind)
      · rw [decide_eq_false m, if_neg m]
        rfl)
    have e : lotD (givenR P S) = .tup ((List.range P.length).map fun i => fr (if i ∈ S then P.getD i 0 / hasR P S else 0)) := by
      unfold lotD givenR
      rw [List.map_map]
      rfl
    rw [e]
    unfold g_given_that b_given_that
    simp only [mDef, En.start, oSeq, oIf, oRet, oSet, oOwn, putOwn_z, putOwn_s, oPar, oNx, oFail, oEx, _root_.R.m2, _root_.R.m1, _root_.R.mA, aCons, aNil, _root_.R.mB, _root_.R.mC, mCh, _root_.R.mT, mNot, mAnd, mOr, mAndV, mOrV, mNotV, mIf, mTup, mLst, mList, asB_b, allS_leaf, wipe_n, wipe_c, wset_z, wset_s, tYesM, oAsg, mLc_1, mLc_2, pairK_t, triK_t, mEnum, mZip, mRange1_b, mRange2_b, oApp, oStore, mOwn_z, mOwn_s, mDefN, oSeqN, mHeard_b, oFrz, frz1_z, frz1_n, frz1_s, oRetN, oSeqX, oRaiseIf, oLift, mDefX, noX, mRevA_b, revK_t, revK_l, oTold_b, oTold0_b, oBk, oCt, oPar3, mCut, mPart, perm_0, perm_01, perm_10, perm_012, perm_021, perm_102, perm_120, perm_201, perm_210, perm_0123, perm_0132, perm_0213, perm_0231, perm_0312, perm_0321, perm_1023, perm_1032, perm_1203, perm_1230, perm_1302, perm_1320, perm_2013, perm_2031, perm_2103, perm_2130, perm_2301, perm_2310, perm_3012, perm_3021, perm_3102, perm_3120, perm_3201, perm_3210, mListR1_b, gPut, gTp, gsCons, gsNil, mSeq, seq_l, seq_t, bind_assoc', bind_leaf, bind_fail, lineOk_1, lineOk_2, lineOk_3, lineOk_s, Nat.reduceLeDiff, mPeek_z, mPeek_s, mVar_z, mVar_s, put_z, put_s, opAdd_i, opSub_i, opNeg_i, cLt_i, cLe_i, cGt_i, cGe_i, cEq_i, cNe_i, fAbs_i, fInt_i, fLen_t, fLen_l, ix0, ix1, Bool.false_eq_true, Bool.not_true, Bool.not_false, List.length_cons, List.length_nil, List.map_cons, List.map_nil, List.cons_append, List.nil_append, List.replicate, Nat.reduceAdd, Nat.reduceSub, Nat.zero_add, if_true, if_false, ↓reduceIte, k1, k2, k3, k4, k5, k6, sq, el, c1, fTuple_l]
end Law

set_option maxRecDepth 100000
set_option linter.all false
namespace Law
open R PySem L2
open Tree (leaf fail)
local macro_rules | `(tactic| walk_at "ev") => `(tactic| simp only [mDef, En.start, oSeq, oIf, oRet, oSet, oOwn, putOwn_z, putOwn_s, oPar, oNx, oFail, oEx, m2, m1, mA, aCons, aNil, mB, mC, mCh, mT, mNot, mAnd, mOr, mAndV, mOrV, mNotV, mIf, mTup, mLst, mList, asB_b, allS_leaf, wipe_n, wipe_c, wset_z, wset_s, tYesM, oAsg, mLc_1, mLc_2, pairK_t, triK_t, mEnum, mZip, mRange1_b, mRange2_b, oApp, oStore, mOwn_z, mOwn_s, mDefN, oSeqN, mHeard_b, oFrz, frz1_z, frz1_n, frz1_s, oRetN, oSeqX, oRaiseIf, oLift, mDefX, noX, mRevA_b, revK_t, revK_l, oTold_b, oTold0_b, oBk, oCt, oPar3, mCut, mPart, perm_0, perm_01, perm_10, perm_012, perm_021, perm_102, perm_120, perm_201, perm_210, perm_0123, perm_0132, perm_0213, perm_0231, perm_0312, perm_0321, perm_1023, perm_1032, perm_1203, perm_1230, perm_1302, perm_1320, perm_2013, perm_2031, perm_2103, perm_2130, perm_2301, perm_2310, perm_3012, perm_3021, perm_3102, perm_3120, perm_3201, perm_3210, mListR1_b, gPut, gTp, gsCons, gsNil, mSeq, seq_l, seq_t, bind_assoc', bind_leaf, bind_fail, lineOk_1, lineOk_2, lineOk_3, lineOk_s, Nat.reduceLeDiff, mPeek_z, mPeek_s, mVar_z, mVar_s, put_z, put_s, opAdd_i, opSub_i, opNeg_i, cLt_i, cLe_i, cGt_i, cGe_i, cEq_i, cNe_i, fAbs_i, fInt_i, fLen_t, fLen_l, ix0, ix1, Bool.false_eq_true, Bool.not_true, Bool.not_false,
  List.length_cons, List.length_nil, List.map_cons, List.map_nil, List.cons_append, List.nil_append, List.replicate, Nat.reduceAdd, Nat.reduceSub, Nat.zero_add, if_true, if_false, ↓reduceIte])
/-! ### shuffled -/
theorem seqIx {n k : Nat} (h : k < n) : seqIndex? (k : Int) n = some k := by
  unfold seqIndex?
  have h0 : ¬ ((k : Int) < 0) := by omega
  have h1 : (0 : Int) ≤ (k : Int) := by omega
  have h2 : (k : Int) < (n : Int) := by omega
  simp [h0, h1, h2]
theorem appPop_b {p q : Option Slot} {es ds : List D} {mv : En → Tree D} {Q : Out → Prop} (hl : ds.length ≤ 100) (hb : es.length ≤ 100) (hv : AllS (fun d => ∃ k : Nat, k < es.length ∧ d = .int (k : Int)) (mv [p, q, some ⟨true, .lst es⟩, some ⟨true, .lst ds⟩]))
    (hq : ∀ k, k < es.length → Q (.nx [p, q, some ⟨true, .lst (es.eraseIdx k)⟩, some ⟨true, .lst (ds ++ [es.getD k .non])⟩])) : AllS Q (oAppPop 3 2 mv [p, q, some ⟨true, .lst es⟩, some ⟨true, .lst ds⟩]) := by
  show AllS Q ((mv [p, q, some ⟨true, .lst es⟩, some ⟨true, .lst ds⟩]).bind _)
  refine allS_fun hv fun d hd => ?_
  obtain ⟨k, hk, rfl⟩ := hd
  have e1 : es[k]? = some (es.getD k .non) := by simp [hk]
  show AllS Q (if -(2 ^ 63) ≤ (k : Int) ∧ (k : Int) < 2 ^ 63 then match seqIndex? (k : Int) es.length with
    | some n => match es[n]? with
      | some y => mOwn 3 (En.putOwn [p, q, some ⟨true, .lst es⟩, some ⟨true, .lst ds⟩] 2 (.lst (es.eraseIdx n))) fun ds => if ds.length < sizeLine then leaf (.nx ((En.putOwn [p, q, some ⟨true, .lst es⟩, some ⟨true, .lst ds⟩] 2 (.lst (es.eraseIdx n))).putOwn 3 (.lst (ds ++ [y])))) else fail
      | none => fail
    | none => fail
    else fail)
  rw [if_pos ⟨by omega, by omega⟩, seqIx hk]
  simp only [e1]
  show AllS Q (if ds.length < sizeLine then leaf (.nx [p, q, some ⟨true, .lst (es.eraseIdx k)⟩, some ⟨true, .lst (ds ++ [es.getD k .non])⟩]) else fail)
  rw [if_pos (Nat.lt_of_le_of_lt hl (by decide)), allS_leaf]
  exact hq k hk
theorem erase_perm : ∀ (es : List D) (k : Nat), k < es.length → (es.getD k .non :: es.eraseIdx k).Perm es
  | e :: es, 0, _ => List.Perm.refl _
  | e :: es, k + 1, h => by
    have ih := erase_perm es k (by simpa using h)
    rw [List.eraseIdx_cons_succ, List.getD_cons_succ]
    exact (List.Perm.swap _ _ _).trans (ih.cons e)
theorem mixed_loop {p q : Option Slot} {mv : En → Tree D} (hv : ∀ es ds : List D, es ≠ [] → es.length ≤ 100 → AllS (fun d => ∃ k : Nat, k < es.length ∧ d = .int (k : Int)) (mv [p, q, some ⟨true, .lst es⟩, some ⟨true, .lst ds⟩])) :
    ∀ (n f : Nat) (es ds : List D), es.length = n → n < f → es.all (fitD 11) = true → ds.length + n ≤ 100 → AllS (fun o => ∃ r, o = .nx [p, q, some ⟨true, .lst []⟩, some ⟨true, .lst r⟩] ∧ r.Perm (ds ++ es)) (oWhile (mC cNe (mPeek 2) (mList (mLst aNil))) (oAppPop 3 2 mv) f [p, q, some ⟨true, .lst es⟩, some ⟨true, .lst ds⟩])
  | n, 0, es, ds, _, h, _, _ => by omega
  | 0, f + 1, es, ds, hn, _, _, _ => by
    have : es = [] := List.length_eq_zero_iff.mp hn
    subst this
    unfold oWhile
    simp only [mDef, En.start, oSeq, oIf, oRet, oSet, oOwn, putOwn_z, putOwn_s, oPar, oNx, oFail, oEx, _root_.R.m2, _root_.R.m1, _root_.R.mA, aCons, aNil, _root_.R.mB, _root_.R.mC, mCh, _root_.R.mT, mNot, mAnd, mOr, mAndV, mOrV, mNotV, mIf, mTup, mLst, mList, asB_b, allS_leaf, wipe_n, wipe_c, wset_z, wset_s, tYesM, oAsg, mLc_1, mLc_2, pairK_t, triK_t, mEnum, mZip, mRange1_b, mRange2_b, oApp, oStore, mOwn_z, mOwn_s, mDefN, oSeqN, mHeard_b, oFrz, frz1_z, frz1_n, frz1_s, oRetN, oSeqX, oRaiseIf, oLift, mDefX, noX, mRevA_b, revK_t, revK_l, oTold_b, oTold0_b, oBk, oCt, oPar3, mCut, mPart, perm_0, perm_01, perm_10, perm_012, perm_021, perm_102, perm_120, perm_201, perm_210, perm_0123, perm_0132, perm_0213, perm_0231, perm_0312, perm_0321, perm_1023, perm_1032, perm_1203, perm_1230, perm_1302, perm_1320, perm_2013, perm_2031, perm_2103, perm_2130, perm_2301, perm_2310, perm_3012, perm_3021, perm_3102, perm_3120, perm_3201, perm_3210, mListR1_b, gPut, gTp, gsCons, gsNil, mSeq, seq_l, seq_t, bind_assoc', bind_leaf, bind_fail, lineOk_1, lineOk_2, lineOk_3, lineOk_s, Nat.reduceLeDiff, mPeek_z, mPeek_s, mVar_z, mVar_s, put_z, put_s, opAdd_i, opSub_i, opNeg_i, cLt_i, cLe_i, cGt_i, cGe_i, cEq_i, cNe_i, fAbs_i, fInt_i, fLen_t, fLen_l, ix0, ix1, Bool.false_eq_true, Bool.not_true, Bool.not_false, List.length_cons, List.length_nil, List.map_cons, List.map_nil, List.cons_append, List.nil_append, List.replicate, Nat.reduceAdd, Nat.reduceSub, Nat.zero_add, if_true, if_false, ↓reduceIte]
    rw [show cNe (.lst []) (.lst []) = .leaf false from rfl, bind_leaf]
    simp only [Bool.false_eq_true, if_false]
    rw [allS_leaf]
    exact ⟨ds, rfl, by rw [List.append_nil]⟩
  | n + 1, f + 1, es, ds, hn, hf, ha, hl => by
    have ne : es ≠ [] := fun e => by rw [e] at hn; cases hn
    have hc : cNe (.lst es) (.lst []) = .leaf true := by
      cases es with
      | nil => exact absurd rfl ne
      | cons e es =>
        show (if (fitD 12 (.lst (e :: es)) && fitD 12 (.lst [])) = true then leaf (!eqD 12 (.lst (e :: es)) (.lst [])) else .fail) = _
        rw [show fitD 12 (.lst (e :: es)) = (e :: es).all (fitD 11) from rfl, ha]
        rfl
    unfold oWhile
    show AllS _ ((mC cNe (mPeek 2) (mList (mLst aNil)) [p, q, some ⟨true, .lst es⟩, some ⟨true, .lst ds⟩]).bind _)
    rw [show mC cNe (mPeek 2) (mList (mLst aNil)) [p, q, some ⟨true, .lst es⟩, some ⟨true, .lst ds⟩] = .leaf true by simp only [mDef, En.start, oSeq, oIf, oRet, oSet, oOwn, putOwn_z, putOwn_s, oPar, oNx, oFail, oEx, _root_.R.m2, _root_.R.m1, _root_.R.mA, aCons, aNil, _root_.R.mB, _root_.R.mC, mCh, _root_.R.mT, mNot, mAnd, mOr, mAndV, mOrV, mNotV, mIf, mTup, mLst, mList, asB_b, allS_leaf, wipe_n, wipe_c, wset_z, wset_s, tYesM, oAsg, mLc_1, mLc_2, pairK_t, triK_t, mEnum, mZip, mRange1_b, mRange2_b, oApp, oStore, mOwn_z, mOwn_s, mDefN, oSeqN, mHeard_b, oFrz, frz1_z, frz1_n, frz1_s, oRetN, oSeqX, oRaiseIf, oLift, mDefX, noX, mRevA_b, revK_t, revK_l, oTold_b, oTold0_b, oBk, oCt, oPar3, mCut, mPart, perm_0, perm_01, perm_10, perm_012, perm_021, perm_102, perm_120, perm_201, perm_210, perm_0123, perm_0132, perm_0213, perm_0231, perm_0312, perm_0321, perm_1023, perm_1032, perm_1203, perm_1230, perm_1302, perm_1320, perm_2013, perm_2031, perm_2103, perm_2130, perm_2301, perm_2310, perm_3012, perm_3021, perm_3102, perm_3120, perm_3201, perm_3210, mListR1_b, gPut, gTp, gsCons, gsNil, mSeq, seq_l, seq_t, bind_assoc', bind_leaf, bind_fail, lineOk_1, lineOk_2, lineOk_3, lineOk_s, Nat.reduceLeDiff, mPeek_z, mPeek_s, mVar_z, mVar_s, put_z, put_s, opAdd_i, opSub_i, opNeg_i, cLt_i, cLe_i, cGt_i, cGe_i, cEq_i, cNe_i, fAbs_i, fInt_i, fLen_t, fLen_l, ix0, ix1, Bool.false_eq_true, Bool.not_true, Bool.not_false, List.length_cons, List.length_nil, List.map_cons, List.map_nil, List.cons_append, List.nil_append, List.replicate, Nat.reduceAdd, Nat.reduceSub, Nat.zero_add, if_true, if_false, ↓reduceIte, hc], bind_leaf, if_pos rfl]
    rw [allS_bind]
    refine appPop_b (by omega) (by omega) (hv es ds ne (by omega)) fun k hk => ?_
    have ih := mixed_loop hv n f (es.eraseIdx k) (ds ++ [es.getD k .non]) (by rw [List.length_eraseIdx_of_lt hk]; omega) (by omega) (by
      rw [List.all_eq_true] at ha ⊢
      exact fun x hx => ha x (List.mem_of_mem_eraseIdx hx)) (by rw [List.length_append, List.length_singleton]; omega)
    refine allS_mono ih fun o ho => ?_
    obtain ⟨r, e, hr⟩ := ho
    refine ⟨r, e, hr.trans ?_⟩
    rw [List.append_assoc]
    exact (erase_perm es k hk).append_left ds
theorem law_mixed_S {y : D} {xs : List D} (h : Sq y xs) (hf : xs.all (fitD 11) = true) (hl : xs.length ≤ 100) : AllS (fun d => ∃ r, d = .lst r ∧ r.Perm xs) (f_law_mixed [.pot, y]) := by
  have k1 : fList y = .leaf xs := by rcases h with rfl | rfl <;> rfl
  have ml := mixed_loop (p := some ⟨false, .pot⟩) (q := some ⟨false, y⟩) (mv := mA f_law_draw (aCons (mVar 0) (aCons (mA fLen (aCons (mPeek 2) aNil)) aNil))) (fun es ds hne hle => by
    have hp : 0 < es.length := List.length_pos_iff.mpr hne
    have d := drS (es.length : Int) (by omega) (by omega)
    simp only [mDef, En.start, oSeq, oIf, oRet, oSet, oOwn, putOwn_z, putOwn_s, oPar, oNx, oFail, oEx, _root_.R.m2, _root_.R.m1, _root_.R.mA, aCons, aNil, _root_.R.mB, _root_.R.mC, mCh, _root_.R.mT, mNot, mAnd, mOr, mAndV, mOrV, mNotV, mIf, mTup, mLst, mList, asB_b, allS_leaf, wipe_n, wipe_c, wset_z, wset_s, tYesM, oAsg, mLc_1, mLc_2, pairK_t, triK_t, mEnum, mZip, mRange1_b, mRange2_b, oApp, oStore, mOwn_z, mOwn_s, mDefN, oSeqN, mHeard_b, oFrz, frz1_z, frz1_n, frz1_s, oRetN, oSeqX, oRaiseIf, oLift, mDefX, noX, mRevA_b, revK_t, revK_l, oTold_b, oTold0_b, oBk, oCt, oPar3, mCut, mPart, perm_0, perm_01, perm_10, perm_012, perm_021, perm_102, perm_120, perm_201, perm_210, perm_0123, perm_0132, perm_0213, perm_0231, perm_0312, perm_0321, perm_1023, perm_1032, perm_1203, perm_1230, perm_1302, perm_1320, perm_2013, perm_2031, perm_2103, perm_2130, perm_2301, perm_2310, perm_3012, perm_3021, perm_3102, perm_3120, perm_3201, perm_3210, mListR1_b, gPut, gTp, gsCons, gsNil, mSeq, seq_l, seq_t, bind_assoc', bind_leaf, bind_fail, lineOk_1, lineOk_2, lineOk_3, lineOk_s, Nat.reduceLeDiff, mPeek_z, mPeek_s, mVar_z, mVar_s, put_z, put_s, opAdd_i, opSub_i, opNeg_i, cLt_i, cLe_i, cGt_i, cGe_i, cEq_i, cNe_i, fAbs_i, fInt_i, fLen_t, fLen_l, ix0, ix1, Bool.false_eq_true, Bool.not_true, Bool.not_false, List.length_cons, List.length_nil, List.map_cons, List.map_nil, List.cons_append, List.nil_append, List.replicate, Nat.reduceAdd, Nat.reduceSub, Nat.zero_add, if_true, if_false, ↓reduceIte]
    refine allS_mono d fun d hd => ?_
    obtain ⟨i, h0, h1, rfl⟩ := hd
    exact ⟨i.toNat, by omega, by rw [Int.toNat_of_nonneg h0]⟩) xs.length FUEL xs [] rfl (Nat.lt_of_le_of_lt hl (by decide)) hf (by simpa using hl)
  rw [List.nil_append] at ml
  unfold f_law_mixed b_law_mixed
  generalize FUEL = fu at *
  generalize oWhile = ow at *
  simp only [mDef, En.start, oSeq, oIf, oRet, oSet, oOwn, putOwn_z, putOwn_s, oPar, oNx, oFail, oEx, _root_.R.m2, _root_.R.m1, _root_.R.mA, aCons, aNil, _root_.R.mB, _root_.R.mC, mCh, _root_.R.mT, mNot, mAnd, mOr, mAndV, mOrV, mNotV, mIf, mTup, mLst, mList, asB_b, allS_leaf, wipe_n, wipe_c, wset_z, wset_s, tYesM, oAsg, mLc_1, mLc_2, pairK_t, triK_t, mEnum, mZip, mRange1_b, mRange2_b, oApp, oStore, mOwn_z, mOwn_s, mDefN, oSeqN, mHeard_b, oFrz, frz1_z, frz1_n, frz1_s, oRetN, oSeqX, oRaiseIf, oLift, mDefX, noX, mRevA_b, revK_t, revK_l, oTold_b, oTold0_b, oBk, oCt, oPar3, mCut, mPart, perm_0, perm_01, perm_10, perm_012, perm_021, perm_102, perm_120, perm_201, perm_210, perm_0123, perm_0132, perm_0213, perm_0231, perm_0312, perm_0321, perm_1023, perm_1032, perm_1203, perm_1230, perm_1302, perm_1320, perm_2013, perm_2031, perm_2103, perm_2130, perm_2301, perm_2310, perm_3012, perm_3021, perm_3102, perm_3120, perm_3201, perm_3210, mListR1_b, gPut, gTp, gsCons, gsNil, mSeq, seq_l, seq_t, bind_assoc', bind_leaf, bind_fail, lineOk_1, lineOk_2, lineOk_3, lineOk_s, Nat.reduceLeDiff, mPeek_z, mPeek_s, mVar_z, mVar_s, put_z, put_s, opAdd_i, opSub_i, opNeg_i, cLt_i, cLe_i, cGt_i, cGe_i, cEq_i, cNe_i, fAbs_i, fInt_i, fLen_t, fLen_l, ix0, ix1, Bool.false_eq_true, Bool.not_true, Bool.not_false, List.length_cons, List.length_nil, List.map_cons, List.map_nil, List.cons_append, List.nil_append, List.replicate, Nat.reduceAdd, Nat.reduceSub, Nat.zero_add, if_true, if_false, ↓reduceIte, oParLL, mListOf, k1]
  rw [allS_bind]
  refine allS_mono ml fun o ho => ?_
  obtain ⟨r, rfl, hr⟩ := ho
  simp only [mDef, En.start, oSeq, oIf, oRet, oSet, oOwn, putOwn_z, putOwn_s, oPar, oNx, oFail, oEx, _root_.R.m2, _root_.R.m1, _root_.R.mA, aCons, aNil, _root_.R.mB, _root_.R.mC, mCh, _root_.R.mT, mNot, mAnd, mOr, mAndV, mOrV, mNotV, mIf, mTup, mLst, mList, asB_b, allS_leaf, wipe_n, wipe_c, wset_z, wset_s, tYesM, oAsg, mLc_1, mLc_2, pairK_t, triK_t, mEnum, mZip, mRange1_b, mRange2_b, oApp, oStore, mOwn_z, mOwn_s, mDefN, oSeqN, mHeard_b, oFrz, frz1_z, frz1_n, frz1_s, oRetN, oSeqX, oRaiseIf, oLift, mDefX, noX, mRevA_b, revK_t, revK_l, oTold_b, oTold0_b, oBk, oCt, oPar3, mCut, mPart, perm_0, perm_01, perm_10, perm_012, perm_021, perm_102, perm_120, perm_201, perm_210, perm_0123, perm_0132, perm_0213, perm_0231, perm_0312, perm_0321, perm_1023, perm_1032, perm_1203, perm_1230, perm_1302, perm_1320, perm_2013, perm_2031, perm_2103, perm_2130, perm_2301, perm_2310, perm_3012, perm_3021, perm_3102, perm_3120, perm_3201, perm_3210, mListR1_b, gPut, gTp, gsCons, gsNil, mSeq, seq_l, seq_t, bind_assoc', bind_leaf, bind_fail, lineOk_1, lineOk_2, lineOk_3, lineOk_s, Nat.reduceLeDiff, mPeek_z, mPeek_s, mVar_z, mVar_s, put_z, put_s, opAdd_i, opSub_i, opNeg_i, cLt_i, cLe_i, cGt_i, cGe_i, cEq_i, cNe_i, fAbs_i, fInt_i, fLen_t, fLen_l, ix0, ix1, Bool.false_eq_true, Bool.not_true, Bool.not_false, List.length_cons, List.length_nil, List.map_cons, List.map_nil, List.cons_append, List.nil_append, List.replicate, Nat.reduceAdd, Nat.reduceSub, Nat.zero_add, if_true, if_false, ↓reduceIte]
  exact ⟨r, rfl, hr⟩
end Law

set_option maxRecDepth 100000
set_option linter.all false
namespace Law
open R PySem L2
open Tree (leaf fail)
local macro_rules | `(tactic| walk_at "ev") => `(tactic| simp only [mDef, En.start, oSeq, oIf, oRet, oSet, oOwn, putOwn_z, putOwn_s, oPar, oNx, oFail, oEx, m2, m1, mA, aCons, aNil, mB, mC, mCh, mT, mNot, mAnd, mOr, mAndV, mOrV, mNotV, mIf, mTup, mLst, mList, asB_b, allS_leaf, wipe_n, wipe_c, wset_z, wset_s, tYesM, oAsg, mLc_1, mLc_2, pairK_t, triK_t, mEnum, mZip, mRange1_b, mRange2_b, oApp, oStore, mOwn_z, mOwn_s, mDefN, oSeqN, mHeard_b, oFrz, frz1_z, frz1_n, frz1_s, oRetN, oSeqX, oRaiseIf, oLift, mDefX, noX, mRevA_b, revK_t, revK_l, oTold_b, oTold0_b, oBk, oCt, oPar3, mCut, mPart, perm_0, perm_01, perm_10, perm_012, perm_021, perm_102, perm_120, perm_201, perm_210, perm_0123, perm_0132, perm_0213, perm_0231, perm_0312, perm_0321, perm_1023, perm_1032, perm_1203, perm_1230, perm_1302, perm_1320, perm_2013, perm_2031, perm_2103, perm_2130, perm_2301, perm_2310, perm_3012, perm_3021, perm_3102, perm_3120, perm_3201, perm_3210, mListR1_b, gPut, gTp, gsCons, gsNil, mSeq, seq_l, seq_t, bind_assoc', bind_leaf, bind_fail, lineOk_1, lineOk_2, lineOk_3, lineOk_s, Nat.reduceLeDiff, mPeek_z, mPeek_s, mVar_z, mVar_s, put_z, put_s, opAdd_i, opSub_i, opNeg_i, cLt_i, cLe_i, cGt_i, cGe_i, cEq_i, cNe_i, fAbs_i, fInt_i, fLen_t, fLen_l, ix0, ix1, Bool.false_eq_true, Bool.not_true, Bool.not_false,
  List.length_cons, List.length_nil, List.map_cons, List.map_nil, List.cons_append, List.nil_append, List.replicate, Nat.reduceAdd, Nat.reduceSub, Nat.zero_add, if_true, if_false, ↓reduceIte])
/-! ### mixed -/
def mixedR (W : List Rat) (Ls : List (List Rat)) (n : Nat) : List Rat := (List.range n).map fun i => dotR W (Ls.map fun P => P.getD i 0)
theorem lot_ixD {P : List Rat} {i : Nat} (h : i < P.length) : opIx (lotD P) (.int (i : Int)) = .leaf (fr (P.getD i 0)) := lot_at h
theorem mixedof_fr {W : List Rat} {Ls : List (List Rat)} {n : Nat} {y : D} (hW : ∀ w ∈ W, Sz 13 w) (hl : W.length ≤ 8) (sy : Sq y (Ls.map lotD)) (h : ∀ P ∈ Ls, P.length = n ∧ ∀ p ∈ P, Sz 13 p) (hL : Ls ≠ []) (hL8 : Ls.length ≤ 8) (hn : n ≤ 8) : f_mixed_of [lotD W, y] = .leaf (lotD (mixedR W Ls n)) := by
  have s1 := sy.seq
  have hp : 0 < Ls.length := List.length_pos_iff.mpr hL
  have i0 : opIx y (.int 0) = .leaf (lotD (Ls.getD 0 [])) := by
    have := sy.ix (k := 0) (by rw [List.length_map]; exact hp)
    rw [show ((0 : Nat) : Int) = 0 from rfl] at this
    rw [this]
    simp [hp]
  have l0 : fLen [lotD (Ls.getD 0 [])] = .leaf (.int (n : Int)) := by
    rw [len_lot]
    congr 3
    have : Ls.getD 0 [] ∈ Ls := by
      rw [List.getD_eq_getElem?_getD, List.getElem?_eq_getElem hp]
      exact List.getElem_mem hp
    exact (h _ this).1
  have r1 := rng1_n (n := n) (by omega)
  have c2 : ∀ i, i < n → lck (fun _ => leaf true) (fun d => opIx d (.int (i : Int))) (Ls.map lotD) = .leaf (Ls.map fun P => fr (P.getD i 0)) := fun i hi => lck_map _ (by omega) fun P hP => ⟨rfl, lot_ixD (by rw [(h P hP).1]; exact hi)⟩
  have c3 : ∀ i, i < n → f_products_sum [lotD W, .lst (Ls.map fun P => fr (P.getD i 0))] = .leaf (fr (dotR W (Ls.map fun P => P.getD i 0))) := fun i hi => psum_fr (n1 := 13) (n2 := 13) rfl (by rw [List.map_map]; rfl) hW (fun q hq => by
    obtain ⟨P, hP, rfl⟩ := List.mem_map.mp hq
    exact (h P hP).2 _ (getD_mem (by rw [(h P hP).1]; exact hi))) hl (by omega)
  have c4 := lck_map (β := Nat) (L := List.range n) (fun i => fr (dotR W (Ls.map fun P => P.getD i 0))) (mt := fun _ => leaf true) (me := fun d => (lck (fun _ => leaf true) (fun e => opIx e d) (Ls.map lotD)).bind fun a => f_products_sum [lotD W, .lst a]) (dx := fun i : Nat => .int (i : Int)) (by rw [List.length_range]; omega) fun i hi => by
    have hi := List.mem_range.mp hi
    exact ⟨rfl, by rw [c2 i hi, bind_leaf, c3 i hi]⟩
  have e : D.tup ((List.range n).map fun i => fr (dotR W (Ls.map fun P => P.getD i 0))) = lotD (mixedR W Ls n) := by
    unfold lotD mixedR
    rw [List.map_map]
    rfl
  unfold f_mixed_of b_mixed_of
  simp only [mDef, En.start, oSeq, oIf, oRet, oSet, oOwn, putOwn_z, putOwn_s, oPar, oNx, oFail, oEx, _root_.R.m2, _root_.R.m1, _root_.R.mA, aCons, aNil, _root_.R.mB, _root_.R.mC, mCh, _root_.R.mT, mNot, mAnd, mOr, mAndV, mOrV, mNotV, mIf, mTup, mLst, mList, asB_b, allS_leaf, wipe_n, wipe_c, wset_z, wset_s, tYesM, oAsg, mLc_1, mLc_2, pairK_t, triK_t, mEnum, mZip, mRange1_b, mRange2_b, oApp, oStore, mOwn_z, mOwn_s, mDefN, oSeqN, mHeard_b, oFrz, frz1_z, frz1_n, frz1_s, oRetN, oSeqX, oRaiseIf, oLift, mDefX, noX, mRevA_b, revK_t, revK_l, oTold_b, oTold0_b, oBk, oCt, oPar3, mCut, mPart, perm_0, perm_01, perm_10, perm_012, perm_021, perm_102, perm_120, perm_201, perm_210, perm_0123, perm_0132, perm_0213, perm_0231, perm_0312, perm_0321, perm_1023, perm_1032, perm_1203, perm_1230, perm_1302, perm_1320, perm_2013, perm_2031, perm_2103, perm_2130, perm_2301, perm_2310, perm_3012, perm_3021, perm_3102, perm_3120, perm_3201, perm_3210, mListR1_b, gPut, gTp, gsCons, gsNil, mSeq, seq_l, seq_t, bind_assoc', bind_leaf, bind_fail, lineOk_1, lineOk_2, lineOk_3, lineOk_s, Nat.reduceLeDiff, mPeek_z, mPeek_s, mVar_z, mVar_s, put_z, put_s, opAdd_i, opSub_i, opNeg_i, cLt_i, cLe_i, cGt_i, cGe_i, cEq_i, cNe_i, fAbs_i, fInt_i, fLen_t, fLen_l, ix0, ix1, Bool.false_eq_true, Bool.not_true, Bool.not_false, List.length_cons, List.length_nil, List.map_cons, List.map_nil, List.cons_append, List.nil_append, List.replicate, Nat.reduceAdd, Nat.reduceSub, Nat.zero_add, if_true, if_false, ↓reduceIte, i0, l0, r1, s1, c4, fTuple_l, e]
theorem chklots {Ls : List (List Rat)} {n : Nat} {y : D} (sy : Sq y (Ls.map lotD)) (h : ∀ P ∈ Ls, P.length = n ∧ LotQ P) (hL : Ls ≠ []) (hL6 : Ls.length ≤ 6) : f_check_lots [y] = .leaf .non := by
  have s1 := sy.seq
  have h1 := sy.isl
  have h2 := sy.len
  rw [List.length_map] at h2
  have hp : 0 < Ls.length := List.length_pos_iff.mpr hL
  have i0 : opIx y (.int 0) = .leaf (lotD (Ls.getD 0 [])) := by
    have := sy.ix (k := 0) (by rw [List.length_map]; exact hp)
    rw [show ((0 : Nat) : Int) = 0 from rfl] at this
    rw [this]
    simp [hp]
  have l0 : fLen [lotD (Ls.getD 0 [])] = .leaf (.int (n : Int)) := by
    rw [len_lot]
    congr 3
    have : Ls.getD 0 [] ∈ Ls := by
      rw [List.getD_eq_getElem?_getD, List.getElem?_eq_getElem hp]
      exact List.getElem_mem hp
    exact (h _ this).1
  have d1 : decide ((1 : Int) ≤ (Ls.length : Int)) = true := decide_eq_true (by omega)
  have d2 : decide ((Ls.length : Int) ≤ 6) = true := decide_eq_true (by omega)
  have c1 := lck_map (β := List Rat) (L := Ls) (fun _ => .bl true) (mt := fun _ => leaf true) (me := fun d => f_is_short_lot [d]) (dx := lotD) (by omega) fun P hP => ⟨rfl, shortlot_fr (h P hP).2⟩
  have c2 := lck_map (β := List Rat) (L := Ls) (fun _ => .bl true) (mt := fun _ => leaf true) (me := fun d => (fLen [d]).bind fun a => (cEq a (.int (n : Int))).bind fun b => leaf (.bl b)) (dx := lotD) (by omega) fun P hP => ⟨rfl, by rw [len_lot, bind_leaf, (h P hP).1, cEq_i, bind_leaf]; simp⟩
  have a1 := all_true Ls
  unfold f_check_lots b_check_lots
  simp only [mDef, En.start, oSeq, oIf, oRet, oSet, oOwn, putOwn_z, putOwn_s, oPar, oNx, oFail, oEx, _root_.R.m2, _root_.R.m1, _root_.R.mA, aCons, aNil, _root_.R.mB, _root_.R.mC, mCh, _root_.R.mT, mNot, mAnd, mOr, mAndV, mOrV, mNotV, mIf, mTup, mLst, mList, asB_b, allS_leaf, wipe_n, wipe_c, wset_z, wset_s, tYesM, oAsg, mLc_1, mLc_2, pairK_t, triK_t, mEnum, mZip, mRange1_b, mRange2_b, oApp, oStore, mOwn_z, mOwn_s, mDefN, oSeqN, mHeard_b, oFrz, frz1_z, frz1_n, frz1_s, oRetN, oSeqX, oRaiseIf, oLift, mDefX, noX, mRevA_b, revK_t, revK_l, oTold_b, oTold0_b, oBk, oCt, oPar3, mCut, mPart, perm_0, perm_01, perm_10, perm_012, perm_021, perm_102, perm_120, perm_201, perm_210, perm_0123, perm_0132, perm_0213, perm_0231, perm_0312, perm_0321, perm_1023, perm_1032, perm_1203, perm_1230, perm_1302, perm_1320, perm_2013, perm_2031, perm_2103, perm_2130, perm_2301, perm_2310, perm_3012, perm_3021, perm_3102, perm_3120, perm_3201, perm_3210, mListR1_b, gPut, gTp, gsCons, gsNil, mSeq, seq_l, seq_t, bind_assoc', bind_leaf, bind_fail, lineOk_1, lineOk_2, lineOk_3, lineOk_s, Nat.reduceLeDiff, mPeek_z, mPeek_s, mVar_z, mVar_s, put_z, put_s, opAdd_i, opSub_i, opNeg_i, cLt_i, cLe_i, cGt_i, cGe_i, cEq_i, cNe_i, fAbs_i, fInt_i, fLen_t, fLen_l, ix0, ix1, Bool.false_eq_true, Bool.not_true, Bool.not_false, List.length_cons, List.length_nil, List.map_cons, List.map_nil, List.cons_append, List.nil_append, List.replicate, Nat.reduceAdd, Nat.reduceSub, Nat.zero_add, if_true, if_false, ↓reduceIte, s1, h1, h2, d1, d2, c1, a1, i0, l0, c2]
theorem mixed_fr {W : List Rat} {Ls : List (List Rat)} {n : Nat} {y : D} (hW : LotQ W) (hWs : ∀ w ∈ W, Sz 13 w) (sy : Sq y (Ls.map lotD)) (h : ∀ P ∈ Ls, P.length = n ∧ LotQ P ∧ ∀ p ∈ P, Sz 13 p) (hlen : W.length = Ls.length) (hL : Ls ≠ []) (hL6 : Ls.length ≤ 6) (hn : n ≤ 8) : f_mixed [lotD W, y] = .leaf (lotD (mixedR W Ls n)) := by
  have k1 := chklots sy (fun P hP => ⟨(h P hP).1, (h P hP).2.1⟩) hL hL6
  have k2 := shortlot_fr hW
  have k3 := len_lot W
  have k4 := sy.len
  rw [List.length_map, ← hlen] at k4
  have k5 : cNe (.int (W.length : Int)) (.int (W.length : Int)) = .leaf false := by rw [cNe_i]; simp
  have k6 := mixedof_fr hWs hW.l8 sy (fun P hP => ⟨(h P hP).1, (h P hP).2.2⟩) hL (by omega) hn
  unfold f_mixed b_mixed
  simp only [mDef, En.start, oSeq, oIf, oRet, oSet, oOwn, putOwn_z, putOwn_s, oPar, oNx, oFail, oEx, _root_.R.m2, _root_.R.m1, _root_.R.mA, aCons, aNil, _root_.R.mB, _root_.R.mC, mCh, _root_.R.mT, mNot, mAnd, mOr, mAndV, mOrV, mNotV, mIf, mTup, mLst, mList, asB_b, allS_leaf, wipe_n, wipe_c, wset_z, wset_s, tYesM, oAsg, mLc_1, mLc_2, pairK_t, triK_t, mEnum, mZip, mRange1_b, mRange2_b, oApp, oStore, mOwn_z, mOwn_s, mDefN, oSeqN, mHeard_b, oFrz, frz1_z, frz1_n, frz1_s, oRetN, oSeqX, oRaiseIf, oLift, mDefX, noX, mRevA_b, revK_t, revK_l, oTold_b, oTold0_b, oBk, oCt, oPar3, mCut, mPart, perm_0, perm_01, perm_10, perm_012, perm_021, perm_102, perm_120, perm_201, perm_210, perm_0123, perm_0132, perm_0213, perm_0231, perm_0312, perm_0321, perm_1023, perm_1032, perm_1203, perm_1230, perm_1302, perm_1320, perm_2013, perm_2031, perm_2103, perm_2130, perm_2301, perm_2310, perm_3012, perm_3021, perm_3102, perm_3120, perm_3201, perm_3210, mListR1_b, gPut, gTp, gsCons, gsNil, mSeq, seq_l, seq_t, bind_assoc', bind_leaf, bind_fail, lineOk_1, lineOk_2, lineOk_3, lineOk_s, Nat.reduceLeDiff, mPeek_z, mPeek_s, mVar_z, mVar_s, put_z, put_s, opAdd_i, opSub_i, opNeg_i, cLt_i, cLe_i, cGt_i, cGe_i, cEq_i, cNe_i, fAbs_i, fInt_i, fLen_t, fLen_l, ix0, ix1, Bool.false_eq_true, Bool.not_true, Bool.not_false, List.length_cons, List.length_nil, List.map_cons, List.map_nil, List.cons_append, List.nil_append, List.replicate, Nat.reduceAdd, Nat.reduceSub, Nat.zero_add, if_true, if_false, ↓reduceIte, k1, k2, k3, k4, k5, k6]
end Law

set_option maxRecDepth 100000
set_option linter.all false
namespace Law
open R PySem L2
open Tree (leaf fail)
local macro_rules | `(tactic| walk_at "ev") => `(tactic| simp only [mDef, En.start, oSeq, oIf, oRet, oSet, oOwn, putOwn_z, putOwn_s, oPar, oNx, oFail, oEx, m2, m1, mA, aCons, aNil, mB, mC, mCh, mT, mNot, mAnd, mOr, mAndV, mOrV, mNotV, mIf, mTup, mLst, mList, asB_b, allS_leaf, wipe_n, wipe_c, wset_z, wset_s, tYesM, oAsg, mLc_1, mLc_2, pairK_t, triK_t, mEnum, mZip, mRange1_b, mRange2_b, oApp, oStore, mOwn_z, mOwn_s, mDefN, oSeqN, mHeard_b, oFrz, frz1_z, frz1_n, frz1_s, oRetN, oSeqX, oRaiseIf, oLift, mDefX, noX, mRevA_b, revK_t, revK_l, oTold_b, oTold0_b, oBk, oCt, oPar3, mCut, mPart, perm_0, perm_01, perm_10, perm_012, perm_021, perm_102, perm_120, perm_201, perm_210, perm_0123, perm_0132, perm_0213, perm_0231, perm_0312, perm_0321, perm_1023, perm_1032, perm_1203, perm_1230, perm_1302, perm_1320, perm_2013, perm_2031, perm_2103, perm_2130, perm_2301, perm_2310, perm_3012, perm_3021, perm_3102, perm_3120, perm_3201, perm_3210, mListR1_b, gPut, gTp, gsCons, gsNil, mSeq, seq_l, seq_t, bind_assoc', bind_leaf, bind_fail, lineOk_1, lineOk_2, lineOk_3, lineOk_s, Nat.reduceLeDiff, mPeek_z, mPeek_s, mVar_z, mVar_s, put_z, put_s, opAdd_i, opSub_i, opNeg_i, cLt_i, cLe_i, cGt_i, cGe_i, cEq_i, cNe_i, fAbs_i, fInt_i, fLen_t, fLen_l, ix0, ix1, Bool.false_eq_true, Bool.not_true, Bool.not_false,
  List.length_cons, List.length_nil, List.map_cons, List.map_nil, List.cons_append, List.nil_append, List.replicate, Nat.reduceAdd, Nat.reduceSub, Nat.zero_add, if_true, if_false, ↓reduceIte])
/-! ### parts -/
def lcmF (D0 : Nat) (L : List Nat) : Nat := L.foldl Nat.lcm D0
theorem lcm_div {a b : Nat} : ((a : Int) * (b : Int)) / ((Int.gcd a b : Nat) : Int) = ((Nat.lcm a b : Nat) : Int) := by
  show ((a : Int) * (b : Int)) / ((Nat.gcd a b : Nat) : Int) = ((a * b / Nat.gcd a b : Nat) : Int)
  rw [← Int.natCast_mul, Int.natCast_ediv]
theorem lcmF_dvd : ∀ (L : List Nat) (a m : Nat), a ∣ m → (∀ b ∈ L, b ∣ m) → lcmF a L ∣ m
  | [], a, m, h, _ => h
  | b :: L, a, m, h, hL => lcmF_dvd L _ m (Nat.lcm_dvd h (hL b List.mem_cons_self)) fun c hc => hL c (List.mem_cons_of_mem _ hc)
theorem dvd_lcmF : ∀ (L : List Nat) (a : Nat), a ∣ lcmF a L ∧ ∀ b ∈ L, b ∣ lcmF a L
  | [], a => ⟨Nat.dvd_refl a, fun _ h => nomatch h⟩
  | b :: L, a => by
    obtain ⟨h1, h2⟩ := dvd_lcmF L (Nat.lcm a b)
    refine ⟨Nat.dvd_trans (Nat.dvd_lcm_left a b) h1, fun c hc => ?_⟩
    rcases List.mem_cons.mp hc with e | e
    · rw [e]; exact Nat.dvd_trans (Nat.dvd_lcm_right a b) h1
    · exact h2 c e
/-- a fraction times its bottom's multiple -/
theorem den_dvd {q : Rat} {m : Nat} {k : Int} (h : q * ((m : Int) : Rat) = (k : Rat)) : q.den ∣ m := by
  have e := rat_mul_den q
  have hd := cast_ne (show (q.den : Int) ≠ 0 by have := q.den_nz; omega)
  have h2 : (q.num : Rat) * ((m : Int) : Rat) = (k : Rat) * ((q.den : Int) : Rat) := by
    rw [← e, ← h]; grind
  have h3 : q.num * (m : Int) = k * (q.den : Int) := by exact_mod_cast h2
  have h4 : (q.den : Int) ∣ q.num * (m : Int) := ⟨k, by rw [h3]; exact Int.mul_comm _ _⟩
  have h5 : q.den ∣ q.num.natAbs * m := by
    have := Int.natAbs_dvd_natAbs.mpr h4
    rwa [Int.natAbs_mul] at this
  exact (Nat.Coprime.dvd_of_dvd_mul_left (Nat.Coprime.symm q.reduced) h5)
def denL (P : List Rat) : List Nat := P.map fun p => p.den
def botP (P : List Rat) : Nat := lcmF 1 (denL P)
theorem botP_dvd {S : Nat} {P : List Rat} (h : LotS S P) : botP P ∣ S := lcmF_dvd _ _ _ (Nat.one_dvd _) fun b hb => by
  obtain ⟨p, hp, rfl⟩ := List.mem_map.mp hb
  obtain ⟨k, e, _⟩ := h.kn p hp
  exact den_dvd e
theorem lcm_pos' {a b : Nat} (h : 0 < a) (h' : 0 < b) : 0 < Nat.lcm a b := Nat.lcm_pos h h'
theorem bottom_loop {S : Nat} (h0 : 0 < S) (hS : S ≤ 8001) : ∀ (P : List Rat) (a : Nat), 0 < a → a ∣ S → (∀ p ∈ P, p.den ∣ S) → ∀ (v : D) (E : En), (∃ y z, E = [some ⟨false, v⟩, some ⟨false, .int (a : Int)⟩, y, z]) → ∃ y z, oLoop (gTp 2 (gsCons (gPut 2) (gsCons (gPut 3) gsNil))) (oSet 1 (m2 opDiv (m2 opMul (mPeek 1) (mPeek 3)) (mA f_divisor (aCons (mVar 1) (aCons (mVar 3) aNil))))) (P.map fr) E = .leaf (.nx [some ⟨false, v⟩, some ⟨false, .int (lcmF a (denL P) : Nat)⟩, y, z])
  | [], a, _, _, _, v, E, ⟨y, z, e⟩ => ⟨y, z, by rw [e]; rfl⟩
  | p :: P, a, ha, hd, hP, v, E, ⟨y, z, e⟩ => by
    subst e
    have pd : 0 < p.den := by have := p.den_nz; omega
    have la : a ≤ S := Nat.le_of_dvd h0 hd
    have lp : p.den ≤ S := Nat.le_of_dvd h0 (hP p List.mem_cons_self)
    have eb : (2 : Nat) ^ 100 = 1267650600228229401496703205376 := by decide
    have k1 := opMul_i (i := (a : Int)) (j := (p.den : Int)) (bb100 (by rw [eb]; omega)) (bb100 (by rw [eb]; omega))
    have k2 := divisor_eq (a := (a : Int)) (b := (p.den : Int)) (by omega) (by omega) (bb100 (by rw [eb]; omega))
    have gp : (0 : Int) < ((Int.gcd (a : Int) (p.den : Int) : Nat) : Int) := by
      have : 0 < Nat.gcd a p.den := Nat.gcd_pos_of_pos_left _ ha
      show (0 : Int) < ((Nat.gcd a p.den : Nat) : Int)
      omega
    have gl : Int.gcd (a : Int) (p.den : Int) ≤ a := Nat.gcd_le_left _ ha
    have k3 := opDiv_i (i := (a : Int) * (p.den : Int)) gp (bb100 (by rw [eb]; omega))
    rw [lcm_div] at k3
    obtain ⟨y', z', ih⟩ := bottom_loop h0 hS P (Nat.lcm a p.den) (lcm_pos' ha pd) (Nat.lcm_dvd hd (hP p List.mem_cons_self)) (fun q hq => hP q (List.mem_cons_of_mem _ hq)) v _ ⟨some ⟨false, .int p.num⟩, some ⟨false, .int p.den⟩, rfl⟩
    refine ⟨y', z', ?_⟩
    rw [List.map_cons]
    unfold oLoop fr
    rw [show (fun q : Rat => D.tup [D.int q.num, D.int q.den]) = fr from rfl]
    generalize hl : oLoop = lp at *
    simp only [mDef, En.start, oSeq, oIf, oRet, oSet, oOwn, putOwn_z, putOwn_s, oPar, oNx, oFail, oEx, _root_.R.m2, _root_.R.m1, _root_.R.mA, aCons, aNil, _root_.R.mB, _root_.R.mC, mCh, _root_.R.mT, mNot, mAnd, mOr, mAndV, mOrV, mNotV, mIf, mTup, mLst, mList, asB_b, allS_leaf, wipe_n, wipe_c, wset_z, wset_s, tYesM, oAsg, mLc_1, mLc_2, pairK_t, triK_t, mEnum, mZip, mRange1_b, mRange2_b, oApp, oStore, mOwn_z, mOwn_s, mDefN, oSeqN, mHeard_b, oFrz, frz1_z, frz1_n, frz1_s, oRetN, oSeqX, oRaiseIf, oLift, mDefX, noX, mRevA_b, revK_t, revK_l, oTold_b, oTold0_b, oBk, oCt, oPar3, mCut, mPart, perm_0, perm_01, perm_10, perm_012, perm_021, perm_102, perm_120, perm_201, perm_210, perm_0123, perm_0132, perm_0213, perm_0231, perm_0312, perm_0321, perm_1023, perm_1032, perm_1203, perm_1230, perm_1302, perm_1320, perm_2013, perm_2031, perm_2103, perm_2130, perm_2301, perm_2310, perm_3012, perm_3021, perm_3102, perm_3120, perm_3201, perm_3210, mListR1_b, gPut, gTp, gsCons, gsNil, mSeq, seq_l, seq_t, bind_assoc', bind_leaf, bind_fail, lineOk_1, lineOk_2, lineOk_3, lineOk_s, Nat.reduceLeDiff, mPeek_z, mPeek_s, mVar_z, mVar_s, put_z, put_s, opAdd_i, opSub_i, opNeg_i, cLt_i, cLe_i, cGt_i, cGe_i, cEq_i, cNe_i, fAbs_i, fInt_i, fLen_t, fLen_l, ix0, ix1, Bool.false_eq_true, Bool.not_true, Bool.not_false, List.length_cons, List.length_nil, List.map_cons, List.map_nil, List.cons_append, List.nil_append, List.replicate, Nat.reduceAdd, Nat.reduceSub, Nat.zero_add, if_true, if_false, ↓reduceIte, k1, k2, k3]
    exact ih
theorem bottom_fr {S : Nat} {P : List Rat} (h : LotS S P) : f_common_bottom [lotD P] = .leaf (.int (botP P : Nat)) := by
  obtain ⟨y, z, k⟩ := bottom_loop h.pos h.le P 1 (by omega) (Nat.one_dvd _) (fun p hp => by
    obtain ⟨k, e, _⟩ := h.kn p hp
    exact den_dvd e) (lotD P) _ ⟨none, none, rfl⟩
  have sq : seqOf (lotD P) = .leaf (P.map fr) := rfl
  have kf := for_at (mi := mSeq (mVar 0)) (g := gTp 2 (gsCons (gPut 2) (gsCons (gPut 3) gsNil))) (E := [some ⟨false, lotD P⟩, some ⟨false, .int ((1 : Nat) : Int)⟩, none, none]) (by simp only [mDef, En.start, oSeq, oIf, oRet, oSet, oOwn, putOwn_z, putOwn_s, oPar, oNx, oFail, oEx, _root_.R.m2, _root_.R.m1, _root_.R.mA, aCons, aNil, _root_.R.mB, _root_.R.mC, mCh, _root_.R.mT, mNot, mAnd, mOr, mAndV, mOrV, mNotV, mIf, mTup, mLst, mList, asB_b, allS_leaf, wipe_n, wipe_c, wset_z, wset_s, tYesM, oAsg, mLc_1, mLc_2, pairK_t, triK_t, mEnum, mZip, mRange1_b, mRange2_b, oApp, oStore, mOwn_z, mOwn_s, mDefN, oSeqN, mHeard_b, oFrz, frz1_z, frz1_n, frz1_s, oRetN, oSeqX, oRaiseIf, oLift, mDefX, noX, mRevA_b, revK_t, revK_l, oTold_b, oTold0_b, oBk, oCt, oPar3, mCut, mPart, perm_0, perm_01, perm_10, perm_012, perm_021, perm_102, perm_120, perm_201, perm_210, perm_0123, perm_0132, perm_0213, perm_0231, perm_0312, perm_0321, perm_1023, perm_1032, perm_1203, perm_1230, perm_1302, perm_1320, perm_2013, perm_2031, perm_2103, perm_2130, perm_2301, perm_2310, perm_3012, perm_3021, perm_3102, perm_3120, perm_3201, perm_3210, mListR1_b, gPut, gTp, gsCons, gsNil, mSeq, seq_l, seq_t, bind_assoc', bind_leaf, bind_fail, lineOk_1, lineOk_2, lineOk_3, lineOk_s, Nat.reduceLeDiff, mPeek_z, mPeek_s, mVar_z, mVar_s, put_z, put_s, opAdd_i, opSub_i, opNeg_i, cLt_i, cLe_i, cGt_i, cGe_i, cEq_i, cNe_i, fAbs_i, fInt_i, fLen_t, fLen_l, ix0, ix1, Bool.false_eq_true, Bool.not_true, Bool.not_false, List.length_cons, List.length_nil, List.map_cons, List.map_nil, List.cons_append, List.nil_append, List.replicate, Nat.reduceAdd, Nat.reduceSub, Nat.zero_add, if_true, if_false, ↓reduceIte, sq]) k
  rw [show (((1 : Nat) : Int)) = 1 from rfl] at kf
  unfold f_common_bottom b_common_bottom
  generalize oFor = ff at *
  generalize mSeq = ms at *
  simp only [mDef, En.start, oSeq, oIf, oRet, oSet, oOwn, putOwn_z, putOwn_s, oPar, oNx, oFail, oEx, _root_.R.m2, _root_.R.m1, _root_.R.mA, aCons, aNil, _root_.R.mB, _root_.R.mC, mCh, _root_.R.mT, mNot, mAnd, mOr, mAndV, mOrV, mNotV, mIf, mTup, mLst, mList, asB_b, allS_leaf, wipe_n, wipe_c, wset_z, wset_s, tYesM, oAsg, mLc_1, mLc_2, pairK_t, triK_t, mEnum, mZip, mRange1_b, mRange2_b, oApp, oStore, mOwn_z, mOwn_s, mDefN, oSeqN, mHeard_b, oFrz, frz1_z, frz1_n, frz1_s, oRetN, oSeqX, oRaiseIf, oLift, mDefX, noX, mRevA_b, revK_t, revK_l, oTold_b, oTold0_b, oBk, oCt, oPar3, mCut, mPart, perm_0, perm_01, perm_10, perm_012, perm_021, perm_102, perm_120, perm_201, perm_210, perm_0123, perm_0132, perm_0213, perm_0231, perm_0312, perm_0321, perm_1023, perm_1032, perm_1203, perm_1230, perm_1302, perm_1320, perm_2013, perm_2031, perm_2103, perm_2130, perm_2301, perm_2310, perm_3012, perm_3021, perm_3102, perm_3120, perm_3201, perm_3210, mListR1_b, gPut, gTp, gsCons, gsNil, mSeq, seq_l, seq_t, bind_assoc', bind_leaf, bind_fail, lineOk_1, lineOk_2, lineOk_3, lineOk_s, Nat.reduceLeDiff, mPeek_z, mPeek_s, mVar_z, mVar_s, put_z, put_s, opAdd_i, opSub_i, opNeg_i, cLt_i, cLe_i, cGt_i, cGe_i, cEq_i, cNe_i, fAbs_i, fInt_i, fLen_t, fLen_l, ix0, ix1, Bool.false_eq_true, Bool.not_true, Bool.not_false, List.length_cons, List.length_nil, List.map_cons, List.map_nil, List.cons_append, List.nil_append, List.replicate, Nat.reduceAdd, Nat.reduceSub, Nat.zero_add, if_true, if_false, ↓reduceIte, kf]
  rfl
def topsP (P : List Rat) : List Int := P.map fun p => p.num * ((botP P / p.den : Nat) : Int)
theorem parts_fr {S : Nat} {P : List Rat} (h : LotS S P) : f_parts [lotD P] = .leaf (.tup [.tup ((topsP P).map .int), .int (botP P : Nat)]) := by
  have k1 := checklot_fr h.q
  have k2 := bottom_fr h
  have sq : seqOf (lotD P) = .leaf (P.map fr) := rfl
  have eb : (2 : Nat) ^ 100 = 1267650600228229401496703205376 := by decide
  have e13 : (2 : Nat) ^ 13 = 8192 := by decide
  have hS := h.le
  have bl : botP P ≤ S := Nat.le_of_dvd h.pos (botP_dvd h)
  have c1 := lck_map (β := Rat) (L := P) (fun p => .int (p.num * ((botP P / p.den : Nat) : Int))) (mt := pairK fun _ _ => leaf true) (me := pairK fun a b => (opDiv (.int (botP P : Nat)) b).bind fun e => opMul a e) (dx := fr) (by have := h.q.l8; omega) fun p hp => by
    have pd : 0 < p.den := by have := p.den_nz; omega
    obtain ⟨z1, z2⟩ := h.sz p hp
    rw [e13] at z1 z2
    refine ⟨rfl, ?_⟩
    unfold fr
    rw [pairK_t, opDiv_i (by omega) (bb100 (by rw [eb]; omega)), bind_leaf, ← Int.natCast_ediv]
    have := Nat.div_le_self (botP P) p.den
    exact opMul_i (bb100 (by rw [eb]; omega)) (bb100 (by rw [eb]; generalize botP P / p.den = w at *; omega))
  have e : (topsP P).map D.int = P.map fun p => D.int (p.num * ((botP P / p.den : Nat) : Int)) := by
    unfold topsP
    rw [List.map_map]
    rfl
  rw [e]
  unfold f_parts b_parts
  simp only [mDef, En.start, oSeq, oIf, oRet, oSet, oOwn, putOwn_z, putOwn_s, oPar, oNx, oFail, oEx, _root_.R.m2, _root_.R.m1, _root_.R.mA, aCons, aNil, _root_.R.mB, _root_.R.mC, mCh, _root_.R.mT, mNot, mAnd, mOr, mAndV, mOrV, mNotV, mIf, mTup, mLst, mList, asB_b, allS_leaf, wipe_n, wipe_c, wset_z, wset_s, tYesM, oAsg, mLc_1, mLc_2, pairK_t, triK_t, mEnum, mZip, mRange1_b, mRange2_b, oApp, oStore, mOwn_z, mOwn_s, mDefN, oSeqN, mHeard_b, oFrz, frz1_z, frz1_n, frz1_s, oRetN, oSeqX, oRaiseIf, oLift, mDefX, noX, mRevA_b, revK_t, revK_l, oTold_b, oTold0_b, oBk, oCt, oPar3, mCut, mPart, perm_0, perm_01, perm_10, perm_012, perm_021, perm_102, perm_120, perm_201, perm_210, perm_0123, perm_0132, perm_0213, perm_0231, perm_0312, perm_0321, perm_1023, perm_1032, perm_1203, perm_1230, perm_1302, perm_1320, perm_2013, perm_2031, perm_2103, perm_2130, perm_2301, perm_2310, perm_3012, perm_3021, perm_3102, perm_3120, perm_3201, perm_3210, mListR1_b, gPut, gTp, gsCons, gsNil, mSeq, seq_l, seq_t, bind_assoc', bind_leaf, bind_fail, lineOk_1, lineOk_2, lineOk_3, lineOk_s, Nat.reduceLeDiff, mPeek_z, mPeek_s, mVar_z, mVar_s, put_z, put_s, opAdd_i, opSub_i, opNeg_i, cLt_i, cLe_i, cGt_i, cGe_i, cEq_i, cNe_i, fAbs_i, fInt_i, fLen_t, fLen_l, ix0, ix1, Bool.false_eq_true, Bool.not_true, Bool.not_false, List.length_cons, List.length_nil, List.map_cons, List.map_nil, List.cons_append, List.nil_append, List.replicate, Nat.reduceAdd, Nat.reduceSub, Nat.zero_add, if_true, if_false, ↓reduceIte, k1, k2, sq, c1, fTuple_l]
theorem tops_q {S : Nat} {P : List Rat} (h : LotS S P) : ∀ p ∈ P, ((p.num * ((botP P / p.den : Nat) : Int) : Int) : Rat) = p * (((botP P : Nat) : Int) : Rat) := fun p hp => by
  have dv : p.den ∣ botP P := (dvd_lcmF (denL P) 1).2 _ (List.mem_map.mpr ⟨p, hp, rfl⟩)
  have e := rat_mul_den p
  obtain ⟨c, hc⟩ := dv
  have pd : 0 < p.den := by have := p.den_nz; omega
  rw [hc, Nat.mul_div_cancel_left _ pd, Rat.intCast_mul, ← e, show (((p.den * c : Nat) : Int) : Rat) = ((p.den : Int) : Rat) * ((c : Int) : Rat) by rw [← Rat.intCast_mul]; congr 1]
  grind
theorem botP_pos {S : Nat} {P : List Rat} (h : LotS S P) : 0 < botP P := Nat.pos_of_ne_zero fun e => by
  have := botP_dvd h
  rw [e] at this
  have := Nat.eq_zero_of_zero_dvd this
  have := h.pos
  omega
/-- no number from 2 on divides all parts -/
theorem no_common {S : Nat} {P : List Rat} (h : LotS S P) (m : Nat) (hm : 2 ≤ m) : ¬ ((∀ t ∈ topsP P, t % (m : Int) = 0) ∧ ((botP P : Nat) : Int) % (m : Int) = 0) := by
  rintro ⟨h1, h2⟩
  have hb : m ∣ botP P := by
    have : (m : Int) ∣ ((botP P : Nat) : Int) := Int.dvd_of_emod_eq_zero h2
    exact_mod_cast this
  obtain ⟨c, hc⟩ := hb
  have bp := botP_pos h
  have hm0 := cast_ne (show (m : Int) ≠ 0 by omega)
  have : botP P ∣ c := lcmF_dvd _ _ _ (Nat.one_dvd _) fun b hbm => by
    obtain ⟨p, hp, rfl⟩ := List.mem_map.mp hbm
    have t0 := h1 _ (List.mem_map.mpr ⟨p, hp, rfl⟩)
    obtain ⟨d, hd⟩ := Int.dvd_of_emod_eq_zero t0
    have e := tops_q h p hp
    rw [hd, hc, Rat.intCast_mul, show (((m * c : Nat) : Int) : Rat) = ((m : Int) : Rat) * ((c : Int) : Rat) by rw [← Rat.intCast_mul]; congr 1] at e
    refine den_dvd (k := d) ?_
    generalize ((m : Int) : Rat) = z at *
    grind
  have cp : 0 < c := Nat.pos_of_ne_zero fun e => by rw [e, Nat.mul_zero] at hc; omega
  have l := Nat.le_of_dvd cp this
  have : 2 * c ≤ m * c := Nat.mul_le_mul_right c hm
  omega
end Law

set_option maxRecDepth 100000
set_option linter.all false
namespace Law
open R PySem L2
open Tree (leaf fail)
local macro_rules | `(tactic| walk_at "ev") => `(tactic| simp only [mDef, En.start, oSeq, oIf, oRet, oSet, oOwn, putOwn_z, putOwn_s, oPar, oNx, oFail, oEx, m2, m1, mA, aCons, aNil, mB, mC, mCh, mT, mNot, mAnd, mOr, mAndV, mOrV, mNotV, mIf, mTup, mLst, mList, asB_b, allS_leaf, wipe_n, wipe_c, wset_z, wset_s, tYesM, oAsg, mLc_1, mLc_2, pairK_t, triK_t, mEnum, mZip, mRange1_b, mRange2_b, oApp, oStore, mOwn_z, mOwn_s, mDefN, oSeqN, mHeard_b, oFrz, frz1_z, frz1_n, frz1_s, oRetN, oSeqX, oRaiseIf, oLift, mDefX, noX, mRevA_b, revK_t, revK_l, oTold_b, oTold0_b, oBk, oCt, oPar3, mCut, mPart, perm_0, perm_01, perm_10, perm_012, perm_021, perm_102, perm_120, perm_201, perm_210, perm_0123, perm_0132, perm_0213, perm_0231, perm_0312, perm_0321, perm_1023, perm_1032, perm_1203, perm_1230, perm_1302, perm_1320, perm_2013, perm_2031, perm_2103, perm_2130, perm_2301, perm_2310, perm_3012, perm_3021, perm_3102, perm_3120, perm_3201, perm_3210, mListR1_b, gPut, gTp, gsCons, gsNil, mSeq, seq_l, seq_t, bind_assoc', bind_leaf, bind_fail, lineOk_1, lineOk_2, lineOk_3, lineOk_s, Nat.reduceLeDiff, mPeek_z, mPeek_s, mVar_z, mVar_s, put_z, put_s, opAdd_i, opSub_i, opNeg_i, cLt_i, cLe_i, cGt_i, cGe_i, cEq_i, cNe_i, fAbs_i, fInt_i, fLen_t, fLen_l, ix0, ix1, Bool.false_eq_true, Bool.not_true, Bool.not_false,
  List.length_cons, List.length_nil, List.map_cons, List.map_nil, List.cons_append, List.nil_append, List.replicate, Nat.reduceAdd, Nat.reduceSub, Nat.zero_add, if_true, if_false, ↓reduceIte])
/-! ### moved, beside -/
def atSum (Z : List (Rat × Nat)) (i : Nat) : Rat := ((Z.filter fun z => z.2 == i).map (·.1)).sum
def movedR (P : List Rat) (T : List Nat) (n : Nat) : List Rat := (List.range n).map fun i => atSum (P.zip T) i
theorem atSum_cons (z : Rat × Nat) (Z : List (Rat × Nat)) (i : Nat) : atSum (z :: Z) i = (if z.2 = i then z.1 else 0) + atSum Z i := by
  unfold atSum
  by_cases h : z.2 = i
  · rw [List.filter_cons_of_pos (by simpa using h), List.map_cons, List.sum_cons, if_pos h]
  · rw [List.filter_cons_of_neg (by simpa using h), if_neg h]; grind
theorem zip_PT (P : List Rat) (T : List Nat) : zipD (P.map fr) (iL T) = (P.zip T).map fun z => .tup [fr z.1, .int (z.2 : Int)] := zip_gen fr (fun t : Nat => .int (t : Int)) P T
theorem moved_loop {S n : Nat} (h0 : 0 < S) (hS : S ≤ 8001) (v w u : D) : ∀ (Z : List (Rat × Nat)) (j : Nat) (F : List Rat) (E : En), (∀ z ∈ Z, z.2 < n ∧ Kn S S z.1) → F.length = n → (∀ f ∈ F, Kn S (j * S) f) → j + Z.length ≤ 20 → n ≤ 100 →
    (∃ y z, E = [some ⟨false, v⟩, some ⟨false, w⟩, some ⟨false, u⟩, some ⟨true, .lst (F.map fr)⟩, y, z]) →
    ∃ (F' : List Rat) (y z : Option Slot), F'.length = n ∧ (∀ i, i < n → F'.getD i 0 = F.getD i 0 + atSum Z i) ∧ oLoop (gTp 2 (gsCons (gPut 4) (gsCons (gPut 5) gsNil))) (oStore 3 (mPeek 5) (mA f_add (aCons (m2 opIx (mPeek 3) (mPeek 5)) (aCons (mVar 4) aNil)))) (Z.map fun z => .tup [fr z.1, .int (z.2 : Int)]) E = .leaf (.nx [some ⟨false, v⟩, some ⟨false, w⟩, some ⟨false, u⟩, some ⟨true, .lst (F'.map fr)⟩, y, z])
  | [], j, F, E, _, hl, _, _, _, ⟨y, z, e⟩ => ⟨F, y, z, hl, fun i _ => by unfold atSum; simp; grind, by rw [e]; rfl⟩
  | z :: Z, j, F, E, hZ, hl, hF, hj, hn, ⟨y, x, e⟩ => by
    subst e
    have hz := hZ z List.mem_cons_self
    rw [List.length_cons] at hj
    have hk : z.2 < F.length := by rw [hl]; exact hz.1
    have kf : Kn S (j * S) (F.getD z.2 0) := hF _ (getD_mem hk)
    have bj : j * S ≤ 20 * 8001 := Nat.mul_le_mul (by omega) hS
    have e18 : (2 : Nat) ^ 18 = 262144 := by decide
    have s1 := kn_sz kf h0 (n := 18) (by rw [e18]; omega) (by rw [e18]; omega)
    have s2 := kn_sz hz.2 h0 (n := 18) (by rw [e18]; omega) (by rw [e18]; omega)
    have k1 := (opIx_lt (ds := F.map fr) (k := z.2) (by rw [List.length_map]; exact hk)).1
    have k1' : (F.map fr).getD z.2 .non = fr (F.getD z.2 0) := by simp [hk]
    rw [k1'] at k1
    have k2 := add_fr (s1.mono (m := 4000) (by omega)) (s2.mono (m := 4000) (by omega))
    have k3 := ixN_n (n := (F.map fr).length) (k := z.2) (by rw [List.length_map]; exact hk)
    rw [List.length_map] at k3
    have ks : (F.map fr).set z.2 (fr (F.getD z.2 0 + z.1)) = (F.set z.2 (F.getD z.2 0 + z.1)).map fr := by rw [List.map_set]
    obtain ⟨F', y', x', hl', h1, ih⟩ := moved_loop (n := n) h0 hS v w u Z (j + 1) (F.set z.2 (F.getD z.2 0 + z.1)) _ (fun q hq => hZ q (List.mem_cons_of_mem _ hq)) (by rw [List.length_set]; exact hl) (fun f hf => by
      have e : (j + 1) * S = j * S + S := Nat.succ_mul _ _
      rw [e]
      rcases List.mem_or_eq_of_mem_set hf with h | h
      · obtain ⟨k, e1, e2⟩ := hF f h
        exact ⟨k, e1, by omega⟩
      · rw [h]; exact kn_add kf hz.2) (by omega) hn ⟨some ⟨false, fr z.1⟩, some ⟨false, .int (z.2 : Int)⟩, rfl⟩
    refine ⟨F', y', x', hl', fun i hi => ?_, ?_⟩
    · rw [h1 i hi, atSum_cons]
      by_cases e : z.2 = i
      · subst e
        rw [if_pos rfl]
        have : (F.set z.2 (F.getD z.2 0 + z.1)).getD z.2 0 = F.getD z.2 0 + z.1 := by simp [hk]
        rw [this]
        grind
      · rw [if_neg e]
        have : (F.set z.2 (F.getD z.2 0 + z.1)).getD i 0 = F.getD i 0 := by simp [List.getElem?_set_ne e]
        rw [this]
        grind
    · rw [List.map_cons]
      unfold oLoop
      generalize oLoop = lp at *
      simp only [mDef, En.start, oSeq, oIf, oRet, oSet, oOwn, putOwn_z, putOwn_s, oPar, oNx, oFail, oEx, _root_.R.m2, _root_.R.m1, _root_.R.mA, aCons, aNil, _root_.R.mB, _root_.R.mC, mCh, _root_.R.mT, mNot, mAnd, mOr, mAndV, mOrV, mNotV, mIf, mTup, mLst, mList, asB_b, allS_leaf, wipe_n, wipe_c, wset_z, wset_s, tYesM, oAsg, mLc_1, mLc_2, pairK_t, triK_t, mEnum, mZip, mRange1_b, mRange2_b, oApp, oStore, mOwn_z, mOwn_s, mDefN, oSeqN, mHeard_b, oFrz, frz1_z, frz1_n, frz1_s, oRetN, oSeqX, oRaiseIf, oLift, mDefX, noX, mRevA_b, revK_t, revK_l, oTold_b, oTold0_b, oBk, oCt, oPar3, mCut, mPart, perm_0, perm_01, perm_10, perm_012, perm_021, perm_102, perm_120, perm_201, perm_210, perm_0123, perm_0132, perm_0213, perm_0231, perm_0312, perm_0321, perm_1023, perm_1032, perm_1203, perm_1230, perm_1302, perm_1320, perm_2013, perm_2031, perm_2103, perm_2130, perm_2301, perm_2310, perm_3012, perm_3021, perm_3102, perm_3120, perm_3201, perm_3210, mListR1_b, gPut, gTp, gsCons, gsNil, mSeq, seq_l, seq_t, bind_assoc', bind_leaf, bind_fail, lineOk_1, lineOk_2, lineOk_3, lineOk_s, Nat.reduceLeDiff, mPeek_z, mPeek_s, mVar_z, mVar_s, put_z, put_s, opAdd_i, opSub_i, opNeg_i, cLt_i, cLe_i, cGt_i, cGe_i, cEq_i, cNe_i, fAbs_i, fInt_i, fLen_t, fLen_l, ix0, ix1, Bool.false_eq_true, Bool.not_true, Bool.not_false, List.length_cons, List.length_nil, List.map_cons, List.map_nil, List.cons_append, List.nil_append, List.replicate, Nat.reduceAdd, Nat.reduceSub, Nat.zero_add, if_true, if_false, ↓reduceIte, k1, k2]
      rw [List.length_map, k3]
      simp only [mDef, En.start, oSeq, oIf, oRet, oSet, oOwn, putOwn_z, putOwn_s, oPar, oNx, oFail, oEx, _root_.R.m2, _root_.R.m1, _root_.R.mA, aCons, aNil, _root_.R.mB, _root_.R.mC, mCh, _root_.R.mT, mNot, mAnd, mOr, mAndV, mOrV, mNotV, mIf, mTup, mLst, mList, asB_b, allS_leaf, wipe_n, wipe_c, wset_z, wset_s, tYesM, oAsg, mLc_1, mLc_2, pairK_t, triK_t, mEnum, mZip, mRange1_b, mRange2_b, oApp, oStore, mOwn_z, mOwn_s, mDefN, oSeqN, mHeard_b, oFrz, frz1_z, frz1_n, frz1_s, oRetN, oSeqX, oRaiseIf, oLift, mDefX, noX, mRevA_b, revK_t, revK_l, oTold_b, oTold0_b, oBk, oCt, oPar3, mCut, mPart, perm_0, perm_01, perm_10, perm_012, perm_021, perm_102, perm_120, perm_201, perm_210, perm_0123, perm_0132, perm_0213, perm_0231, perm_0312, perm_0321, perm_1023, perm_1032, perm_1203, perm_1230, perm_1302, perm_1320, perm_2013, perm_2031, perm_2103, perm_2130, perm_2301, perm_2310, perm_3012, perm_3021, perm_3102, perm_3120, perm_3201, perm_3210, mListR1_b, gPut, gTp, gsCons, gsNil, mSeq, seq_l, seq_t, bind_assoc', bind_leaf, bind_fail, lineOk_1, lineOk_2, lineOk_3, lineOk_s, Nat.reduceLeDiff, mPeek_z, mPeek_s, mVar_z, mVar_s, put_z, put_s, opAdd_i, opSub_i, opNeg_i, cLt_i, cLe_i, cGt_i, cGe_i, cEq_i, cNe_i, fAbs_i, fInt_i, fLen_t, fLen_l, ix0, ix1, Bool.false_eq_true, Bool.not_true, Bool.not_false, List.length_cons, List.length_nil, List.map_cons, List.map_nil, List.cons_append, List.nil_append, List.replicate, Nat.reduceAdd, Nat.reduceSub, Nat.zero_add, if_true, if_false, ↓reduceIte, ks]
      exact ih
theorem movedof_fr {S n : Nat} {P : List Rat} {T : List Nat} {y : D} (hP : LotS S P) (sy : Sq y (iL T)) (hl : T.length = P.length) (ht : ∀ t ∈ T, t < n) (n1 : 1 ≤ n) (n8 : n ≤ 8) : f_moved_of [lotD P, y, .int (n : Int)] = .leaf (lotD (movedR P T n)) := by
  have s1 : seqOf (lotD P) = .leaf (P.map fr) := rfl
  have s2 := sy.seq
  have l8 := hP.q.l8
  have r1 : opRepL (.lst [.tup [.int 0, .int 1]]) (.int (n : Int)) = .leaf ((List.replicate n (0 : Rat)).map fr) := by
    have e : (List.replicate n (0 : Rat)).map fr = (List.replicate n [D.tup [.int 0, .int 1]]).flatten := by
      rw [List.map_replicate, fr_zero]
      clear n1 n8 ht
      induction n with
      | zero => rfl
      | succ n ih => rw [List.replicate_succ, List.replicate_succ, List.flatten_cons, ih]; rfl
    rw [e]
    show (if repOk 1 (n : Int) = true then leaf (List.replicate (n : Int).toNat [D.tup [.int 0, .int 1]]).flatten else fail) = _
    have : repOk 1 (n : Int) = true := by
      unfold repOk
      rw [decide_eq_true (by omega), decide_eq_true (by omega), decide_eq_true (show 1 * (n : Int).toNat ≤ sizeLine from Nat.le_trans (show 1 * (n : Int).toNat ≤ 100 by omega) (by decide))]
      rfl
    rw [if_pos this, Int.toNat_natCast]
  obtain ⟨F', y', z', hl', h1, k⟩ := moved_loop (n := n) hP.pos hP.le (lotD P) y (.int (n : Int)) (P.zip T) 0 (List.replicate n 0) _ (fun z hz => ⟨ht _ (List.of_mem_zip hz).2, hP.kn _ (List.of_mem_zip hz).1⟩) (by simp) (fun f hf => by
    rw [(List.mem_replicate.mp hf).2]
    obtain ⟨k, e1, e2⟩ := kn_zero S
    exact ⟨k, e1, by omega⟩) (by have := zip_len (Q := T) l8; omega) (by omega) ⟨none, none, rfl⟩
  have e : F' = movedR P T n := by
    unfold movedR
    refine List.ext_getElem (by simp [hl']) fun i i1 i2 => ?_
    have hi : i < n := by rw [hl'] at i1; exact i1
    have a := h1 i hi
    rw [List.getElem_map, List.getElem_range]
    have b : F'.getD i 0 = F'[i] := by simp [i1]
    have c : (List.replicate n (0 : Rat)).getD i 0 = 0 := by simp [hi]
    rw [b, c] at a
    rw [a]; grind
  subst e
  have kf := for_at (mi := mZip (mVar 0) (mVar 1)) (g := gTp 2 (gsCons (gPut 4) (gsCons (gPut 5) gsNil))) (E := [some ⟨false, lotD P⟩, some ⟨false, y⟩, some ⟨false, .int (n : Int)⟩, some ⟨true, .lst ((List.replicate n (0 : Rat)).map fr)⟩, none, none]) (by
    rw [zip_at rfl rfl s1 s2, zip_PT]) k
  unfold f_moved_of b_moved_of
  generalize oFor = ff at *
  generalize mZip = mz at *
  generalize hos : oStore = os at *
  simp only [mDef, En.start, oSeq, oIf, oRet, oSet, oOwn, putOwn_z, putOwn_s, oPar, oNx, oFail, oEx, _root_.R.m2, _root_.R.m1, _root_.R.mA, aCons, aNil, _root_.R.mB, _root_.R.mC, mCh, _root_.R.mT, mNot, mAnd, mOr, mAndV, mOrV, mNotV, mIf, mTup, mLst, mList, asB_b, allS_leaf, wipe_n, wipe_c, wset_z, wset_s, tYesM, oAsg, mLc_1, mLc_2, pairK_t, triK_t, mEnum, mZip, mRange1_b, mRange2_b, oApp, oStore, mOwn_z, mOwn_s, mDefN, oSeqN, mHeard_b, oFrz, frz1_z, frz1_n, frz1_s, oRetN, oSeqX, oRaiseIf, oLift, mDefX, noX, mRevA_b, revK_t, revK_l, oTold_b, oTold0_b, oBk, oCt, oPar3, mCut, mPart, perm_0, perm_01, perm_10, perm_012, perm_021, perm_102, perm_120, perm_201, perm_210, perm_0123, perm_0132, perm_0213, perm_0231, perm_0312, perm_0321, perm_1023, perm_1032, perm_1203, perm_1230, perm_1302, perm_1320, perm_2013, perm_2031, perm_2103, perm_2130, perm_2301, perm_2310, perm_3012, perm_3021, perm_3102, perm_3120, perm_3201, perm_3210, mListR1_b, gPut, gTp, gsCons, gsNil, mSeq, seq_l, seq_t, bind_assoc', bind_leaf, bind_fail, lineOk_1, lineOk_2, lineOk_3, lineOk_s, Nat.reduceLeDiff, mPeek_z, mPeek_s, mVar_z, mVar_s, put_z, put_s, opAdd_i, opSub_i, opNeg_i, cLt_i, cLe_i, cGt_i, cGe_i, cEq_i, cNe_i, fAbs_i, fInt_i, fLen_t, fLen_l, ix0, ix1, Bool.false_eq_true, Bool.not_true, Bool.not_false, List.length_cons, List.length_nil, List.map_cons, List.map_nil, List.cons_append, List.nil_append, List.replicate, Nat.reduceAdd, Nat.reduceSub, Nat.zero_add, if_true, if_false, ↓reduceIte, mRepL, r1, kf, fTuple_l]
  rfl
theorem count_eq (t : Nat) : f_is_count [.int (t : Int)] = .leaf (.bl true) := by
  have k := isint_eq (t : Int)
  have d : decide ((0 : Int) ≤ (t : Int)) = true := decide_eq_true (by omega)
  unfold f_is_count b_is_count
  simp only [mDef, En.start, oSeq, oIf, oRet, oSet, oOwn, putOwn_z, putOwn_s, oPar, oNx, oFail, oEx, _root_.R.m2, _root_.R.m1, _root_.R.mA, aCons, aNil, _root_.R.mB, _root_.R.mC, mCh, _root_.R.mT, mNot, mAnd, mOr, mAndV, mOrV, mNotV, mIf, mTup, mLst, mList, asB_b, allS_leaf, wipe_n, wipe_c, wset_z, wset_s, tYesM, oAsg, mLc_1, mLc_2, pairK_t, triK_t, mEnum, mZip, mRange1_b, mRange2_b, oApp, oStore, mOwn_z, mOwn_s, mDefN, oSeqN, mHeard_b, oFrz, frz1_z, frz1_n, frz1_s, oRetN, oSeqX, oRaiseIf, oLift, mDefX, noX, mRevA_b, revK_t, revK_l, oTold_b, oTold0_b, oBk, oCt, oPar3, mCut, mPart, perm_0, perm_01, perm_10, perm_012, perm_021, perm_102, perm_120, perm_201, perm_210, perm_0123, perm_0132, perm_0213, perm_0231, perm_0312, perm_0321, perm_1023, perm_1032, perm_1203, perm_1230, perm_1302, perm_1320, perm_2013, perm_2031, perm_2103, perm_2130, perm_2301, perm_2310, perm_3012, perm_3021, perm_3102, perm_3120, perm_3201, perm_3210, mListR1_b, gPut, gTp, gsCons, gsNil, mSeq, seq_l, seq_t, bind_assoc', bind_leaf, bind_fail, lineOk_1, lineOk_2, lineOk_3, lineOk_s, Nat.reduceLeDiff, mPeek_z, mPeek_s, mVar_z, mVar_s, put_z, put_s, opAdd_i, opSub_i, opNeg_i, cLt_i, cLe_i, cGt_i, cGe_i, cEq_i, cNe_i, fAbs_i, fInt_i, fLen_t, fLen_l, ix0, ix1, Bool.false_eq_true, Bool.not_true, Bool.not_false, List.length_cons, List.length_nil, List.map_cons, List.map_nil, List.cons_append, List.nil_append, List.replicate, Nat.reduceAdd, Nat.reduceSub, Nat.zero_add, if_true, if_false, ↓reduceIte, k, d]
theorem chknum {x a b : Int} (h1 : a ≤ x) (h2 : x ≤ b) : f_check_number [.int x, .int a, .int b] = .leaf .non := by
  have k := isint_eq x
  have d1 : decide (a ≤ x) = true := decide_eq_true h1
  have d2 : decide (x ≤ b) = true := decide_eq_true h2
  have w : f_is_within [.int x, .int a, .int b] = .leaf (.bl true) := by
    unfold f_is_within b_is_within
    simp only [mDef, En.start, oSeq, oIf, oRet, oSet, oOwn, putOwn_z, putOwn_s, oPar, oNx, oFail, oEx, _root_.R.m2, _root_.R.m1, _root_.R.mA, aCons, aNil, _root_.R.mB, _root_.R.mC, mCh, _root_.R.mT, mNot, mAnd, mOr, mAndV, mOrV, mNotV, mIf, mTup, mLst, mList, asB_b, allS_leaf, wipe_n, wipe_c, wset_z, wset_s, tYesM, oAsg, mLc_1, mLc_2, pairK_t, triK_t, mEnum, mZip, mRange1_b, mRange2_b, oApp, oStore, mOwn_z, mOwn_s, mDefN, oSeqN, mHeard_b, oFrz, frz1_z, frz1_n, frz1_s, oRetN, oSeqX, oRaiseIf, oLift, mDefX, noX, mRevA_b, revK_t, revK_l, oTold_b, oTold0_b, oBk, oCt, oPar3, mCut, mPart, perm_0, perm_01, perm_10, perm_012, perm_021, perm_102, perm_120, perm_201, perm_210, perm_0123, perm_0132, perm_0213, perm_0231, perm_0312, perm_0321, perm_1023, perm_1032, perm_1203, perm_1230, perm_1302, perm_1320, perm_2013, perm_2031, perm_2103, perm_2130, perm_2301, perm_2310, perm_3012, perm_3021, perm_3102, perm_3120, perm_3201, perm_3210, mListR1_b, gPut, gTp, gsCons, gsNil, mSeq, seq_l, seq_t, bind_assoc', bind_leaf, bind_fail, lineOk_1, lineOk_2, lineOk_3, lineOk_s, Nat.reduceLeDiff, mPeek_z, mPeek_s, mVar_z, mVar_s, put_z, put_s, opAdd_i, opSub_i, opNeg_i, cLt_i, cLe_i, cGt_i, cGe_i, cEq_i, cNe_i, fAbs_i, fInt_i, fLen_t, fLen_l, ix0, ix1, Bool.false_eq_true, Bool.not_true, Bool.not_false, List.length_cons, List.length_nil, List.map_cons, List.map_nil, List.cons_append, List.nil_append, List.replicate, Nat.reduceAdd, Nat.reduceSub, Nat.zero_add, if_true, if_false, ↓reduceIte, k, d1, d2]
  unfold f_check_number b_check_number
  simp only [mDef, En.start, oSeq, oIf, oRet, oSet, oOwn, putOwn_z, putOwn_s, oPar, oNx, oFail, oEx, _root_.R.m2, _root_.R.m1, _root_.R.mA, aCons, aNil, _root_.R.mB, _root_.R.mC, mCh, _root_.R.mT, mNot, mAnd, mOr, mAndV, mOrV, mNotV, mIf, mTup, mLst, mList, asB_b, allS_leaf, wipe_n, wipe_c, wset_z, wset_s, tYesM, oAsg, mLc_1, mLc_2, pairK_t, triK_t, mEnum, mZip, mRange1_b, mRange2_b, oApp, oStore, mOwn_z, mOwn_s, mDefN, oSeqN, mHeard_b, oFrz, frz1_z, frz1_n, frz1_s, oRetN, oSeqX, oRaiseIf, oLift, mDefX, noX, mRevA_b, revK_t, revK_l, oTold_b, oTold0_b, oBk, oCt, oPar3, mCut, mPart, perm_0, perm_01, perm_10, perm_012, perm_021, perm_102, perm_120, perm_201, perm_210, perm_0123, perm_0132, perm_0213, perm_0231, perm_0312, perm_0321, perm_1023, perm_1032, perm_1203, perm_1230, perm_1302, perm_1320, perm_2013, perm_2031, perm_2103, perm_2130, perm_2301, perm_2310, perm_3012, perm_3021, perm_3102, perm_3120, perm_3201, perm_3210, mListR1_b, gPut, gTp, gsCons, gsNil, mSeq, seq_l, seq_t, bind_assoc', bind_leaf, bind_fail, lineOk_1, lineOk_2, lineOk_3, lineOk_s, Nat.reduceLeDiff, mPeek_z, mPeek_s, mVar_z, mVar_s, put_z, put_s, opAdd_i, opSub_i, opNeg_i, cLt_i, cLe_i, cGt_i, cGe_i, cEq_i, cNe_i, fAbs_i, fInt_i, fLen_t, fLen_l, ix0, ix1, Bool.false_eq_true, Bool.not_true, Bool.not_false, List.length_cons, List.length_nil, List.map_cons, List.map_nil, List.cons_append, List.nil_append, List.replicate, Nat.reduceAdd, Nat.reduceSub, Nat.zero_add, if_true, if_false, ↓reduceIte, w]
theorem moved_fr {S n : Nat} {P : List Rat} {T : List Nat} {y : D} (hP : LotS S P) (sy : Sq y (iL T)) (hl : T.length = P.length) (ht : ∀ t ∈ T, t < n) (n1 : 1 ≤ n) (n8 : n ≤ 8) : f_moved [lotD P, y, .int (n : Int)] = .leaf (lotD (movedR P T n)) := by
  have k1 := checklot_fr hP.q
  have k2 := sy.isl
  have k3 := sy.len
  rw [iL_len, hl] at k3
  have k4 := len_lot P
  have s2 := sy.seq
  have l8 := hP.q.l8
  have n2 : cNe (.int (P.length : Int)) (.int (P.length : Int)) = .leaf false := by rw [cNe_i]; simp
  have c1 : lck (fun _ => leaf true) (fun d => f_is_count [d]) (iL T) = .leaf (T.map fun _ => .bl true) := lck_map (β := Nat) (L := T) (fun _ => .bl true) (by omega) fun t _ => ⟨rfl, count_eq t⟩
  have c2 : lck (fun _ => leaf true) (fun d => (cLt d (.int (n : Int))).bind fun b => leaf (.bl b)) (iL T) = .leaf (T.map fun _ => .bl true) := lck_map (β := Nat) (L := T) (fun _ => .bl true) (by omega) fun t m => ⟨rfl, by rw [cLt_i, bind_leaf, decide_eq_true (by have := ht t m; omega)]⟩
  have a1 := all_true T
  have k5 := chknum (x := (n : Int)) (a := 1) (b := 8) (by omega) (by omega)
  have k6 := movedof_fr hP sy hl ht n1 n8
  unfold f_moved b_moved
  simp only [mDef, En.start, oSeq, oIf, oRet, oSet, oOwn, putOwn_z, putOwn_s, oPar, oNx, oFail, oEx, _root_.R.m2, _root_.R.m1, _root_.R.mA, aCons, aNil, _root_.R.mB, _root_.R.mC, mCh, _root_.R.mT, mNot, mAnd, mOr, mAndV, mOrV, mNotV, mIf, mTup, mLst, mList, asB_b, allS_leaf, wipe_n, wipe_c, wset_z, wset_s, tYesM, oAsg, mLc_1, mLc_2, pairK_t, triK_t, mEnum, mZip, mRange1_b, mRange2_b, oApp, oStore, mOwn_z, mOwn_s, mDefN, oSeqN, mHeard_b, oFrz, frz1_z, frz1_n, frz1_s, oRetN, oSeqX, oRaiseIf, oLift, mDefX, noX, mRevA_b, revK_t, revK_l, oTold_b, oTold0_b, oBk, oCt, oPar3, mCut, mPart, perm_0, perm_01, perm_10, perm_012, perm_021, perm_102, perm_120, perm_201, perm_210, perm_0123, perm_0132, perm_0213, perm_0231, perm_0312, perm_0321, perm_1023, perm_1032, perm_1203, perm_1230, perm_1302, perm_1320, perm_2013, perm_2031, perm_2103, perm_2130, perm_2301, perm_2310, perm_3012, perm_3021, perm_3102, perm_3120, perm_3201, perm_3210, mListR1_b, gPut, gTp, gsCons, gsNil, mSeq, seq_l, seq_t, bind_assoc', bind_leaf, bind_fail, lineOk_1, lineOk_2, lineOk_3, lineOk_s, Nat.reduceLeDiff, mPeek_z, mPeek_s, mVar_z, mVar_s, put_z, put_s, opAdd_i, opSub_i, opNeg_i, cLt_i, cLe_i, cGt_i, cGe_i, cEq_i, cNe_i, fAbs_i, fInt_i, fLen_t, fLen_l, ix0, ix1, Bool.false_eq_true, Bool.not_true, Bool.not_false, List.length_cons, List.length_nil, List.map_cons, List.map_nil, List.cons_append, List.nil_append, List.replicate, Nat.reduceAdd, Nat.reduceSub, Nat.zero_add, if_true, if_false, ↓reduceIte, k1, k2, k3, k4, n2, s2, c1, a1, k5, c2, k6]
theorem beside_fr {P Q : List Rat} (hP : LotQ P) (hQ : LotQ Q) : f_beside [lotD P, lotD Q] = .leaf (.lst (P.map fun p => .lst (Q.map fun q => fr (p * q)))) := by
  have k1 := two_fr hP hQ
  have s1 : seqOf (lotD P) = .leaf (P.map fr) := rfl
  have s2 : seqOf (lotD Q) = .leaf (Q.map fr) := rfl
  have c1 := lck_map (β := Rat) (L := P) (fun p => .lst (Q.map fun q => fr (p * q))) (mt := fun _ => leaf true) (me := fun d => (lck (fun _ => leaf true) (fun e => f_multiply [d, e]) (Q.map fr)).bind fun a => leaf (.lst a)) (dx := fr) (by have := hP.l8; omega) fun p hp => ⟨rfl, by
    rw [lck_map (β := Rat) (L := Q) (fun q => fr (p * q)) (by have := hQ.l8; omega) (fun q hq => ⟨rfl, multiply_fr ((sh_sz (hP.sh p hp)).mono (by omega)) ((sh_sz (hQ.sh q hq)).mono (by omega))⟩), bind_leaf]⟩
  unfold f_beside b_beside
  simp only [mDef, En.start, oSeq, oIf, oRet, oSet, oOwn, putOwn_z, putOwn_s, oPar, oNx, oFail, oEx, _root_.R.m2, _root_.R.m1, _root_.R.mA, aCons, aNil, _root_.R.mB, _root_.R.mC, mCh, _root_.R.mT, mNot, mAnd, mOr, mAndV, mOrV, mNotV, mIf, mTup, mLst, mList, asB_b, allS_leaf, wipe_n, wipe_c, wset_z, wset_s, tYesM, oAsg, mLc_1, mLc_2, pairK_t, triK_t, mEnum, mZip, mRange1_b, mRange2_b, oApp, oStore, mOwn_z, mOwn_s, mDefN, oSeqN, mHeard_b, oFrz, frz1_z, frz1_n, frz1_s, oRetN, oSeqX, oRaiseIf, oLift, mDefX, noX, mRevA_b, revK_t, revK_l, oTold_b, oTold0_b, oBk, oCt, oPar3, mCut, mPart, perm_0, perm_01, perm_10, perm_012, perm_021, perm_102, perm_120, perm_201, perm_210, perm_0123, perm_0132, perm_0213, perm_0231, perm_0312, perm_0321, perm_1023, perm_1032, perm_1203, perm_1230, perm_1302, perm_1320, perm_2013, perm_2031, perm_2103, perm_2130, perm_2301, perm_2310, perm_3012, perm_3021, perm_3102, perm_3120, perm_3201, perm_3210, mListR1_b, gPut, gTp, gsCons, gsNil, mSeq, seq_l, seq_t, bind_assoc', bind_leaf, bind_fail, lineOk_1, lineOk_2, lineOk_3, lineOk_s, Nat.reduceLeDiff, mPeek_z, mPeek_s, mVar_z, mVar_s, put_z, put_s, opAdd_i, opSub_i, opNeg_i, cLt_i, cLe_i, cGt_i, cGe_i, cEq_i, cNe_i, fAbs_i, fInt_i, fLen_t, fLen_l, ix0, ix1, Bool.false_eq_true, Bool.not_true, Bool.not_false, List.length_cons, List.length_nil, List.map_cons, List.map_nil, List.cons_append, List.nil_append, List.replicate, Nat.reduceAdd, Nat.reduceSub, Nat.zero_add, if_true, if_false, ↓reduceIte, k1, s1, s2, c1]
end Law

set_option maxRecDepth 100000
set_option maxHeartbeats 4000000
set_option linter.all false
namespace Law
open R PySem L2
open Tree (leaf fail)
local macro_rules | `(tactic| walk_at "ev") => `(tactic| simp only [mDef, En.start, oSeq, oIf, oRet, oSet, oOwn, putOwn_z, putOwn_s, oPar, oNx, oFail, oEx, m2, m1, mA, aCons, aNil, mB, mC, mCh, mT, mNot, mAnd, mOr, mAndV, mOrV, mNotV, mIf, mTup, mLst, mList, asB_b, allS_leaf, wipe_n, wipe_c, wset_z, wset_s, tYesM, oAsg, mLc_1, mLc_2, pairK_t, triK_t, mEnum, mZip, mRange1_b, mRange2_b, oApp, oStore, mOwn_z, mOwn_s, mDefN, oSeqN, mHeard_b, oFrz, frz1_z, frz1_n, frz1_s, oRetN, oSeqX, oRaiseIf, oLift, mDefX, noX, mRevA_b, revK_t, revK_l, oTold_b, oTold0_b, oBk, oCt, oPar3, mCut, mPart, perm_0, perm_01, perm_10, perm_012, perm_021, perm_102, perm_120, perm_201, perm_210, perm_0123, perm_0132, perm_0213, perm_0231, perm_0312, perm_0321, perm_1023, perm_1032, perm_1203, perm_1230, perm_1302, perm_1320, perm_2013, perm_2031, perm_2103, perm_2130, perm_2301, perm_2310, perm_3012, perm_3021, perm_3102, perm_3120, perm_3201, perm_3210, mListR1_b, gPut, gTp, gsCons, gsNil, mSeq, seq_l, seq_t, bind_assoc', bind_leaf, bind_fail, lineOk_1, lineOk_2, lineOk_3, lineOk_s, Nat.reduceLeDiff, mPeek_z, mPeek_s, mVar_z, mVar_s, put_z, put_s, opAdd_i, opSub_i, opNeg_i, cLt_i, cLe_i, cGt_i, cGe_i, cEq_i, cNe_i, fAbs_i, fInt_i, fLen_t, fLen_l, ix0, ix1, Bool.false_eq_true, Bool.not_true, Bool.not_false,
  List.length_cons, List.length_nil, List.map_cons, List.map_nil, List.cons_append, List.nil_append, List.replicate, Nat.reduceAdd, Nat.reduceSub, Nat.zero_add, if_true, if_false, ↓reduceIte])
/-! ### sums over places -/
def rsum (n : Nat) (f : Nat → Rat) : Rat := ((List.range n).map f).sum
theorem sum_app (A B : List Rat) : (A ++ B).sum = A.sum + B.sum := List.sum_append
theorem rsum_s (n : Nat) (f : Nat → Rat) : rsum (n + 1) f = rsum n f + f n := by
  unfold rsum
  rw [List.range_succ, List.map_append, sum_app, List.map_singleton, List.sum_cons, List.sum_nil]
  grind
theorem rsum_z (f : Nat → Rat) : rsum 0 f = 0 := rfl
theorem rsum_congr {n : Nat} {f g : Nat → Rat} (h : ∀ i, i < n → f i = g i) : rsum n f = rsum n g := by
  unfold rsum
  rw [List.map_congr_left fun i hi => h i (List.mem_range.mp hi)]
theorem rsum_add (f g : Nat → Rat) : ∀ n, rsum n (fun i => f i + g i) = rsum n f + rsum n g
  | 0 => by rw [rsum_z, rsum_z, rsum_z]; grind
  | n + 1 => by rw [rsum_s, rsum_s, rsum_s, rsum_add f g n]; grind
theorem rsum_mul (c : Rat) (f : Nat → Rat) : ∀ n, rsum n (fun i => c * f i) = c * rsum n f
  | 0 => by rw [rsum_z, rsum_z]; grind
  | n + 1 => by rw [rsum_s, rsum_s, rsum_mul c f n]; grind
theorem rsum_le {f g : Nat → Rat} : ∀ n, (∀ i, i < n → f i ≤ g i) → rsum n f ≤ rsum n g
  | 0, _ => by rw [rsum_z, rsum_z]; exact Rat.le_refl
  | n + 1, h => by
    have a := rsum_le n fun i hi => h i (by omega)
    have b := h n (by omega)
    rw [rsum_s, rsum_s]
    grind
theorem rsum_one {a : Nat} (c : Rat) : ∀ n, rsum n (fun i => if i = a then c else 0) = if a < n then c else 0
  | 0 => by rw [rsum_z, if_neg (by omega)]
  | n + 1 => by
    rw [rsum_s, rsum_one c n]
    by_cases h : n = a
    · rw [if_pos h, if_neg (by omega), if_pos (by omega)]; grind
    · rw [if_neg h]
      by_cases h2 : a < n
      · rw [if_pos h2, if_pos (by omega)]; grind
      · rw [if_neg h2, if_neg (by omega)]; grind
theorem rsum_lot (P : List Rat) : rsum P.length (fun i => P.getD i 0) = P.sum := by
  unfold rsum
  rw [range_getD]
/-- a sum over places without doubles, over all places -/
theorem hasR_eq (P : List Rat) : ∀ S : List Nat, S.Nodup → (∀ i ∈ S, i < P.length) → hasR P S = rsum P.length fun i => if i ∈ S then P.getD i 0 else 0
  | [], _, _ => by
    have : rsum P.length (fun i => if i ∈ ([] : List Nat) then P.getD i 0 else 0) = rsum P.length (fun i => 0 * P.getD i 0) := rsum_congr fun i _ => by rw [if_neg (List.not_mem_nil)]; grind
    rw [this, rsum_mul]
    show (0 : Rat) = _
    grind
  | a :: S, nd, lt => by
    rw [List.nodup_cons] at nd
    have ih := hasR_eq P S nd.2 fun i hi => lt i (List.mem_cons_of_mem _ hi)
    have e : rsum P.length (fun i => if i ∈ a :: S then P.getD i 0 else 0) = rsum P.length (fun i => (if i = a then P.getD a 0 else 0) + if i ∈ S then P.getD i 0 else 0) := rsum_congr fun i _ => by
      by_cases h : i = a
      · rw [h, if_pos List.mem_cons_self, if_pos rfl, if_neg nd.1]; grind
      · by_cases h2 : i ∈ S
        · rw [if_pos (List.mem_cons_of_mem _ h2), if_neg h, if_pos h2]; grind
        · rw [if_neg (fun m => (List.mem_cons.mp m).elim h h2), if_neg h, if_neg h2]; grind
    rw [e, rsum_add, rsum_one, if_pos (lt a List.mem_cons_self), ← ih]
    unfold hasR
    rw [List.map_cons, List.sum_cons]
def restL (n : Nat) (S : List Nat) : List Nat := (List.range n).filter fun i => !decide (i ∈ S)
theorem rest_pls {n : Nat} {S : List Nat} {y : D} (h : Sq y (iL (restL n S))) : Pls y (restL n S) n := ⟨h, List.nodup_range.filter _, fun i hi => List.mem_range.mp (List.mem_filter.mp hi).1⟩
theorem rest_len (n : Nat) (S : List Nat) : (restL n S).length ≤ n := by
  have := List.length_filter_le (fun i => !decide (i ∈ S)) (List.range n)
  rwa [List.length_range] at this
theorem mem_rest {n i : Nat} {S : List Nat} (hi : i < n) : i ∈ restL n S ↔ ¬ i ∈ S := by
  unfold restL
  rw [List.mem_filter]
  simp [hi]
theorem hasR_rest {P : List Rat} {S : List Nat} (h1 : P.sum = 1) (nd : S.Nodup) (lt : ∀ i ∈ S, i < P.length) : hasR P (restL P.length S) = 1 - hasR P S := by
  rw [hasR_eq P S nd lt, hasR_eq P (restL P.length S) (List.nodup_range.filter _) fun i hi => List.mem_range.mp (List.mem_filter.mp hi).1]
  have e : rsum P.length (fun i => if i ∈ restL P.length S then P.getD i 0 else 0) + rsum P.length (fun i => if i ∈ S then P.getD i 0 else 0) = 1 := by
    rw [← rsum_add, ← h1, ← rsum_lot]
    refine rsum_congr fun i hi => ?_
    by_cases m : i ∈ S
    · rw [if_pos m, if_neg (fun z => (mem_rest hi).mp z m)]; grind
    · rw [if_neg m, if_pos ((mem_rest hi).mpr m)]; grind
  grind
theorem getD_nn {S0 : Nat} {P : List Rat} (h : LotS S0 P) (i : Nat) : 0 ≤ P.getD i 0 := by
  by_cases hi : i < P.length
  · exact h.q.nn _ (getD_mem hi)
  · rw [List.getD_eq_getElem?_getD, List.getElem?_eq_none (by omega)]; exact Rat.le_refl
theorem has_bd {S0 : Nat} {P : List Rat} {S : List Nat} (h : LotS S0 P) (nd : S.Nodup) (lt : ∀ i ∈ S, i < P.length) : 0 ≤ hasR P S ∧ hasR P S ≤ 1 ∧ ∀ i ∈ S, P.getD i 0 ≤ hasR P S := by
  rw [hasR_eq P S nd lt]
  have z : rsum P.length (fun _ => 0 * 0) = 0 := by rw [rsum_mul]; grind
  refine ⟨?_, ?_, fun i hi => ?_⟩
  · rw [← z]
    refine rsum_le _ fun i _ => ?_
    have := getD_nn h i
    split <;> grind
  · rw [← h.q.one, ← rsum_lot]
    refine rsum_le _ fun i _ => ?_
    have := getD_nn h i
    split <;> grind
  · have e := rsum_one (a := i) (P.getD i 0) P.length
    rw [if_pos (lt i hi)] at e
    conv => lhs; rw [← e]
    refine rsum_le _ fun j _ => ?_
    have := getD_nn h j
    by_cases q : j = i
    · rw [q, if_pos rfl, if_pos hi]; exact Rat.le_refl
    · rw [if_neg q]
      split <;> grind
theorem kn_mono {N M M' : Nat} {q : Rat} (h : Kn N M q) (l : M ≤ M') : Kn N M' q := by
  obtain ⟨k, e, hk⟩ := h
  exact ⟨k, e, by omega⟩
theorem has_kn {S0 : Nat} {P : List Rat} {S : List Nat} (h : LotS S0 P) (nd : S.Nodup) (lt : ∀ i ∈ S, i < P.length) : Kn S0 S0 (hasR P S) := by
  have k := kn_sum (N := S0) (B := S0) (S.map fun i => P.getD i 0) fun q hq => by
    obtain ⟨i, hi, rfl⟩ := List.mem_map.mp hq
    exact h.kn _ (getD_mem (lt i hi))
  obtain ⟨k, e, _⟩ := k
  have b := has_bd h nd lt
  unfold hasR at b ⊢
  generalize (S.map fun i => P.getD i 0).sum = o at *
  refine ⟨k, e, ?_⟩
  have s0 : (0 : Rat) < ((S0 : Int) : Rat) := by exact_mod_cast (show (0 : Int) < S0 by have := h.pos; omega)
  have k0 : (0 : Rat) ≤ (k : Rat) := by rw [← e]; exact Rat.mul_nonneg b.1 (by grind)
  have k1 : (k : Rat) ≤ ((S0 : Int) : Rat) := by
    rw [← e]
    have := Rat.mul_le_mul_of_nonneg_right b.2.1 (show (0 : Rat) ≤ ((S0 : Int) : Rat) by grind)
    grind
  have k0' : (0 : Int) ≤ k := by exact_mod_cast k0
  have k1' : k ≤ (S0 : Int) := by exact_mod_cast k1
  omega
theorem given_len (P : List Rat) (S : List Nat) : (givenR P S).length = P.length := by unfold givenR; simp
theorem given_at {P : List Rat} {S : List Nat} {i : Nat} (h : i < P.length) : (givenR P S).getD i 0 = if i ∈ S then P.getD i 0 / hasR P S else 0 := by
  unfold givenR
  simp [h]
theorem given_lot {S0 : Nat} {P : List Rat} {S : List Nat} (h : LotS S0 P) (nd : S.Nodup) (lt : ∀ i ∈ S, i < P.length) (h0 : hasR P S ≠ 0) : ∃ k, LotS k (givenR P S) := by
  obtain ⟨k, e, hk⟩ := has_kn h nd lt
  obtain ⟨b0, b1, b2⟩ := has_bd h nd lt
  have s0 : (0 : Rat) < ((S0 : Int) : Rat) := by exact_mod_cast (show (0 : Int) < S0 by have := h.pos; omega)
  have op : 0 < hasR P S := by grind
  have kp : (0 : Rat) < (k : Rat) := by rw [← e]; exact Rat.mul_pos op s0
  have kp' : 0 < k := by exact_mod_cast kp
  have ek : ((k.toNat : Int) : Rat) = (k : Rat) := by rw [Int.toNat_of_nonneg (by omega)]
  have kn : ∀ p ∈ givenR P S, Kn k.toNat k.toNat p := fun p hp => by
    unfold givenR at hp
    obtain ⟨i, hi, rfl⟩ := List.mem_map.mp hp
    have hi := List.mem_range.mp hi
    by_cases m : i ∈ S
    · rw [if_pos m]
      obtain ⟨t, et, ht⟩ := h.kn _ (getD_mem hi)
      refine ⟨t, ?_, ?_⟩
      · rw [ek, ← e, ← et]
        generalize hasR P S = o at *
        generalize P.getD i 0 = p at *
        generalize ((S0 : Int) : Rat) = s at *
        grind
      · have t0 : (0 : Rat) ≤ (t : Rat) := by rw [← et]; exact Rat.mul_nonneg (getD_nn h i) (by grind)
        have t1 : (t : Rat) ≤ (k : Rat) := by
          rw [← et, ← e]
          exact Rat.mul_le_mul_of_nonneg_right (b2 i m) (by grind)
        have t0' : 0 ≤ t := by exact_mod_cast t0
        have t1' : t ≤ k := by exact_mod_cast t1
        omega
    · rw [if_neg m]
      exact ⟨0, by rw [show ((0 : Int) : Rat) = 0 from rfl]; grind, by omega⟩
  have hS := h.le
  refine ⟨k.toNat, ⟨⟨by rw [given_len]; exact h.q.l1, by rw [given_len]; exact h.q.l8, fun q hq => ?_, ?_, fun q hq => kn_sh (kn q hq) (by omega) (by omega) (by omega)⟩, by omega, by omega, kn⟩⟩
  · unfold givenR at hq
    obtain ⟨i, hi, rfl⟩ := List.mem_map.mp hq
    split
    · rw [Rat.div_def]
      have := Rat.inv_pos.mpr op
      exact Rat.mul_nonneg (getD_nn h i) (by grind)
    · exact Rat.le_refl
  · show rsum P.length _ = 1
    have e2 : rsum P.length (fun i => if i ∈ S then P.getD i 0 / hasR P S else 0) = rsum P.length (fun i => (hasR P S)⁻¹ * if i ∈ S then P.getD i 0 else 0) := rsum_congr fun i _ => by
      split
      · rw [Rat.div_def, Rat.mul_comm]
      · grind
    rw [e2, rsum_mul, ← hasR_eq P S nd lt]
    exact Rat.inv_mul_cancel _ h0
theorem dot2 (a b x y : Rat) : dotR [a, b] [x, y] = a * x + b * y := by
  unfold dotR
  simp
  try grind
/-- what it is given some places, and all others, mixed again -/
theorem mixed_back {S0 : Nat} {P : List Rat} {S : List Nat} (h : LotS S0 P) (nd : S.Nodup) (lt : ∀ i ∈ S, i < P.length) (h0 : hasR P S ≠ 0) (h1 : hasR P S ≠ 1) : mixedR [hasR P S, 1 - hasR P S] [givenR P S, givenR P (restL P.length S)] P.length = P := by
  have hr := hasR_rest h.q.one nd lt
  unfold mixedR
  refine List.ext_getElem (by simp) fun i i1 i2 => ?_
  rw [List.getElem_map, List.getElem_range]
  have b : P.getD i 0 = P[i] := by simp [i2]
  rw [← b]
  show dotR _ [(givenR P S).getD i 0, (givenR P (restL P.length S)).getD i 0] = _
  rw [dot2, given_at i2, given_at i2, hr]
  by_cases m : i ∈ S
  · rw [if_pos m, if_neg (fun z => (mem_rest i2).mp z m)]
    generalize hasR P S = o at *
    generalize P.getD i 0 = p at *
    grind
  · rw [if_neg m, if_pos ((mem_rest i2).mpr m)]
    have : 1 - hasR P S ≠ 0 := by grind
    generalize hasR P S = o at *
    generalize P.getD i 0 = p at *
    grind
/-! ### sizes of data -/
structure DB (b n k : Nat) (d : D) : Prop where
  nm : numB b n d = true
  nd : nodes n d ≤ k
theorem DB.int {b n : Nat} {i : Int} (h : i.natAbs < 2 ^ b) : DB b (n + 1) 1 (.int i) := ⟨by simpa [numB] using h, by simp [nodes]⟩
theorem DB.mono {b n k k' : Nat} {d : D} (h : DB b n k d) (l : k ≤ k') : DB b n k' d := ⟨h.nm, Nat.le_trans h.nd l⟩
theorem sum_le_of {n k : Nat} : ∀ xs : List D, (∀ x ∈ xs, nodes n x ≤ k) → (xs.map fun x => nodes n x + 1).sum ≤ xs.length * (k + 1)
  | [], _ => by simp
  | x :: xs, h => by
    have := sum_le_of (k := k) xs fun y hy => h y (List.mem_cons_of_mem _ hy)
    have := h x List.mem_cons_self
    rw [List.map_cons, List.sum_cons, List.length_cons, Nat.succ_mul]
    omega
theorem DB.tup {b n k m : Nat} {xs : List D} (h : ∀ x ∈ xs, DB b n k x) (l : xs.length ≤ m) : DB b (n + 1) (m * (k + 1)) (.tup xs) := ⟨by
  simp only [numB]
  rw [List.all_eq_true]
  exact fun x hx => (h x hx).nm, by
  simp only [nodes]
  exact Nat.le_trans (sum_le_of xs fun x hx => (h x hx).nd) (Nat.mul_le_mul_right _ l)⟩
theorem DB.lst {b n k m : Nat} {xs : List D} (h : ∀ x ∈ xs, DB b n k x) (l : xs.length ≤ m) : DB b (n + 1) (m * (k + 1)) (.lst xs) := ⟨(DB.tup h l).nm, (DB.tup h l).nd⟩
theorem DB.fr {b n : Nat} {q : Rat} (h : Sz b q) : DB b (n + 2) 4 (fr q) := by
  have := DB.tup (b := b) (n := n + 1) (k := 1) (m := 2) (xs := [.int q.num, .int q.den]) (fun x hx => by
    simp only [List.mem_cons, List.not_mem_nil, or_false] at hx
    rcases hx with rfl | rfl
    · exact DB.int h.1
    · exact DB.int (by have := h.2; omega)) (by simp)
  exact this
theorem DB.lot {b n : Nat} {P : List Rat} (h : ∀ p ∈ P, Sz b p) (l : P.length ≤ 8) : DB b (n + 3) 40 (lotD P) := DB.tup (k := 4) (m := 8) (fun x hx => by
  obtain ⟨p, hp, rfl⟩ := List.mem_map.mp hx
  exact DB.fr (h p hp)) (by rw [List.length_map]; exact l)
theorem DB.il {b n : Nat} {T : List Nat} (h : ∀ t ∈ T, t < 2 ^ b) (l : T.length ≤ 8) : DB b (n + 2) 16 (.lst (iL T)) := DB.lst (k := 1) (m := 8) (fun x hx => by
  obtain ⟨t, ht, rfl⟩ := List.mem_map.mp hx
  exact DB.int (by have := h t ht; omega)) (by rw [iL_len]; exact l)
theorem DB.str {b n : Nat} {x : Str} (h : numB b 1 (.str x) = true) : DB b (n + 1) 1 (.str x) := ⟨h, by simp [nodes]⟩
theorem repr_D {b k : Nat} {d : D} (h : DB b 12 k d) (hb : b ≤ 1900) (h7 : 7 ≤ b) (hk : (b + 3) * (k * (b + 1)) + (b + 1) ≤ 16000000) : ∃ s, fRepr [d] = .leaf (.str s) ∧ cNe (.str s) (.str s) = .leaf false ∧ cEq (.str s) (.str s) = .leaf true :=
  repr_B b hb h7 h.nm (Nat.le_trans (Nat.add_le_add_right (Nat.mul_le_mul_left _ (Nat.mul_le_mul_right _ h.nd)) _) hk)

theorem allEq_refl {p : D → D → Bool} : ∀ xs : List D, (∀ x ∈ xs, p x x = true) → allEq p xs xs = true
  | [], _ => rfl
  | x :: xs, h => by
    unfold allEq
    rw [h x List.mem_cons_self, allEq_refl xs fun y hy => h y (List.mem_cons_of_mem _ hy)]; rfl
theorem eqD_refl : ∀ (n : Nat) (d : D), fitD n d = true → eqD n d d = true
  | 0, _, h => by cases h
  | n + 1, d, h => by
    cases d with
    | non => rfl
    | bl b => simp [eqD]
    | int i => simp [eqD]
    | str x => simp [eqD]
    | tup xs =>
      have h : xs.all (fitD n) = true := h
      rw [List.all_eq_true] at h
      exact allEq_refl xs fun x hx => eqD_refl n x (h x hx)
    | lst xs =>
      have h : xs.all (fitD n) = true := h
      rw [List.all_eq_true] at h
      exact allEq_refl xs fun x hx => eqD_refl n x (h x hx)
    | _ => cases h
theorem ne_self {d : D} (h : fitD 12 d = true) : cNe d d = .leaf false ∧ cEq d d = .leaf true := by
  unfold cNe cEq
  rw [h, eqD_refl 12 d h]
  exact ⟨rfl, rfl⟩
theorem fit_fr (q : Rat) (n : Nat) : fitD (n + 2) (fr q) = true := rfl
theorem fit_frs (P : List Rat) (n : Nat) : (P.map fr).all (fitD (n + 2)) = true := by
  rw [List.all_map, List.all_eq_true]
  exact fun q _ => fit_fr q n
theorem frs_of {K : Rat → Prop} {β : Type} : ∀ zs : List (β × D), (∀ z ∈ zs, ∃ w, z.2 = fr w ∧ K w) → ∃ W : List Rat, zs.map (·.2) = W.map fr ∧ W.length = zs.length ∧ ∀ w ∈ W, K w
  | [], _ => ⟨[], rfl, rfl, fun _ h => nomatch h⟩
  | z :: zs, h => by
    obtain ⟨w, e, k⟩ := h z List.mem_cons_self
    obtain ⟨W, e2, hl, hW⟩ := frs_of zs fun y hy => h y (List.mem_cons_of_mem _ hy)
    exact ⟨w :: W, by rw [List.map_cons, List.map_cons, e, e2], by rw [List.length_cons, List.length_cons, hl], fun q hq => (List.mem_cons.mp hq).elim (fun e => e ▸ k) (hW q)⟩

theorem tops_sz {S : Nat} {P : List Rat} (h : LotS S P) : ∀ t ∈ topsP P, t.natAbs < 2 ^ 26 := fun t ht => by
  have bl : botP P ≤ S := Nat.le_of_dvd h.pos (botP_dvd h)
  have hS := h.le
  unfold topsP at ht
  obtain ⟨p, hp, rfl⟩ := List.mem_map.mp ht
  obtain ⟨z1, _⟩ := h.sz p hp
  have := Nat.div_le_self (botP P) p.den
  rw [Int.natAbs_mul]
  have e13 : (2 : Nat) ^ 13 = 8192 := by decide
  have := Nat.mul_lt_mul_of_lt_of_le z1 (show (((botP P / p.den : Nat) : Int)).natAbs ≤ 2 ^ 13 by rw [e13, Int.natAbs_natCast]; omega) (by decide)
  exact this
theorem bot_sz {S : Nat} {P : List Rat} (h : LotS S P) : botP P < 2 ^ 26 := Nat.lt_of_le_of_lt (Nat.le_trans (Nat.le_of_dvd h.pos (botP_dvd h)) h.le) (by decide)
theorem tops_D (P : List Rat) : (topsP P).map D.int = P.map (fun p => D.int (p.num * ((botP P / p.den : Nat) : Int))) := by unfold topsP; rw [List.map_map]; rfl
theorem parts_back {S : Nat} {P : List Rat} (h : LotS S P) : ∀ p ∈ P, f_law_plain [.int (p.num * ((botP P / p.den : Nat) : Int)), .int ((botP P : Nat) : Int)] = .leaf (fr p) := fun p hp => by
  have t1 := tops_sz h (p.num * ((botP P / p.den : Nat) : Int)) (by unfold topsP; exact List.mem_map.mpr ⟨p, hp, rfl⟩)
  have t2 : ((botP P : Nat) : Int).natAbs < 2 ^ 26 := by rw [Int.natAbs_natCast]; exact bot_sz h
  have t3 := tops_q h p hp
  have bp := botP_pos h
  have t4 := cast_ne (show ((botP P : Nat) : Int) ≠ 0 by omega)
  have t5 : (0 : Int) < ((botP P : Nat) : Int) := by omega
  clear bp
  generalize p.num * ((botP P / p.den : Nat) : Int) = a at *
  generalize ((botP P : Nat) : Int) = b at *
  have c26 : (2 : Nat) ^ 26 < 2 ^ 100 := by decide
  rw [law_plain_fr t5 (bb100 (Nat.lt_trans t2 c26)) (bb100 (Nat.lt_trans t1 c26)), t3]
  congr 2
  generalize (b : Rat) = z at *
  grind

theorem tops_len (P : List Rat) : (topsP P).length = P.length := by unfold topsP; rw [List.length_map]
theorem none_of' {S : Nat} {P : List Rat} (h : LotS S P) (m : Nat) (m2 : 2 ≤ m) : ((lck (fun _ => leaf true) (fun a => (fInt [a]).bind fun a => (opMod a (.int (m : Int))).bind fun a => (cEq a (.int 0)).bind fun b => leaf (D.bl b)) ((topsP P ++ [((botP P : Nat) : Int)]).map .int)).bind fun a => fAll [.lst a]) = .leaf (.bl false) := by
  have l8 := h.q.l8
  have tl := tops_len P
  have e : (topsP P ++ [((botP P : Nat) : Int)]).all (fun t => t % (m : Int) == 0) = false := by
    rw [← Bool.not_eq_true, List.all_eq_true]
    intro hA
    refine no_common h m m2 ⟨fun t ht => ?_, ?_⟩
    · exact beq_iff_eq.mp (hA t (List.mem_append_left _ ht))
    · exact beq_iff_eq.mp (hA _ (List.mem_append_right _ List.mem_cons_self))
  rw [lck_map (β := Int) (fun t => .bl (t % (m : Int) == 0)) (by rw [List.length_append, tl, List.length_singleton]; omega) (fun t _ => ⟨rfl, by
    rw [fInt_i, bind_leaf, opMod_i (by omega), bind_leaf, cEq_i, bind_leaf]⟩), bind_leaf, all_bl (β := Int) (fun t => t % (m : Int) == 0), e]
end Law

set_option maxRecDepth 100000
set_option maxHeartbeats 4000000
set_option linter.all false
namespace Law
open R PySem L2
open Tree (leaf fail)
local macro_rules | `(tactic| walk_at "ev") => `(tactic| simp only [mDef, En.start, oSeq, oIf, oRet, oSet, oOwn, putOwn_z, putOwn_s, oPar, oNx, oFail, oEx, m2, m1, mA, aCons, aNil, mB, mC, mCh, mT, mNot, mAnd, mOr, mAndV, mOrV, mNotV, mIf, mTup, mLst, mList, asB_b, allS_leaf, wipe_n, wipe_c, wset_z, wset_s, tYesM, oAsg, mLc_1, mLc_2, pairK_t, triK_t, mEnum, mZip, mRange1_b, mRange2_b, oApp, oStore, mOwn_z, mOwn_s, mDefN, oSeqN, mHeard_b, oFrz, frz1_z, frz1_n, frz1_s, oRetN, oSeqX, oRaiseIf, oLift, mDefX, noX, mRevA_b, revK_t, revK_l, oTold_b, oTold0_b, oBk, oCt, oPar3, mCut, mPart, perm_0, perm_01, perm_10, perm_012, perm_021, perm_102, perm_120, perm_201, perm_210, perm_0123, perm_0132, perm_0213, perm_0231, perm_0312, perm_0321, perm_1023, perm_1032, perm_1203, perm_1230, perm_1302, perm_1320, perm_2013, perm_2031, perm_2103, perm_2130, perm_2301, perm_2310, perm_3012, perm_3021, perm_3102, perm_3120, perm_3201, perm_3210, mListR1_b, gPut, gTp, gsCons, gsNil, mSeq, seq_l, seq_t, bind_assoc', bind_leaf, bind_fail, lineOk_1, lineOk_2, lineOk_3, lineOk_s, Nat.reduceLeDiff, mPeek_z, mPeek_s, mVar_z, mVar_s, put_z, put_s, opAdd_i, opSub_i, opNeg_i, cLt_i, cLe_i, cGt_i, cGe_i, cEq_i, cNe_i, fAbs_i, fInt_i, fLen_t, fLen_l, ix0, ix1, Bool.false_eq_true, Bool.not_true, Bool.not_false,
  List.length_cons, List.length_nil, List.map_cons, List.map_nil, List.cons_append, List.nil_append, List.replicate, Nat.reduceAdd, Nat.reduceSub, Nat.zero_add, if_true, if_false, ↓reduceIte])
theorem perm_map_ex {α β : Type} {f : α → β} : ∀ {r s : List β}, r.Perm s → ∀ L, s = L.map f → ∃ R : List α, r = R.map f ∧ R.Perm L := by
  intro r s h
  induction h with
  | nil => intro L e; exact ⟨[], rfl, by cases L <;> simp_all⟩
  | cons x _ ih =>
    intro L e
    cases L with
    | nil => cases e
    | cons y L =>
      rw [List.map_cons] at e
      injection e with e1 e2
      obtain ⟨R, e3, h⟩ := ih L e2
      exact ⟨y :: R, by rw [List.map_cons, e1, e3], h.cons y⟩
  | swap x y l =>
    intro L e
    cases L with
    | nil => cases e
    | cons a L =>
      cases L with
      | nil => cases e
      | cons b L =>
        simp only [List.map_cons, List.cons.injEq] at e
        obtain ⟨e1, e2, e3⟩ := e
        exact ⟨b :: a :: L, by rw [List.map_cons, List.map_cons, e1, e2, e3], List.Perm.swap _ _ _⟩
  | trans _ _ ih1 ih2 =>
    intro L e
    obtain ⟨R, e1, h1⟩ := ih2 L e
    obtain ⟨R2, e2, h2⟩ := ih1 R e1
    exact ⟨R2, e2, h2.trans h1⟩
theorem allS_ite {α β : Type} {P : β → Prop} {b : Bool} {A B X : Tree α} {K : α → Tree β} (h1 : b = true → A = X) (h2 : b = false → B = X) (h : AllS P (X.bind K)) : AllS P ((if b = true then A else B).bind K) := by
  cases b with
  | true => rw [if_pos rfl, h1 rfl]; exact h
  | false => rw [if_neg (by decide), h2 rfl]; exact h
theorem allS_iteE {β : Type} {P : β → Prop} {b : Bool} {A B : Tree Out} {K : Out → Tree β} (i : Nat) (E : En) (h2 : b = false → B = leaf (.nx E)) (he : E.set i none = E) (h1 : b = true → ∃ x, A = leaf (.nx (E.set i x))) (h : ∀ x, AllS P ((leaf (Out.nx (E.set i x))).bind K)) : AllS P ((if b = true then A else B).bind K) := by
  cases b with
  | true =>
    obtain ⟨x, e⟩ := h1 rfl
    rw [if_pos rfl, e]; exact h x
  | false =>
    rw [if_neg (by decide), h2 rfl, ← he]; exact h none
def lateD (P : List Rat) (S : List Nat) : D := if hasR P S = 0 then .str (Str.ofString "none") else lotD (givenR P S)
theorem rev_fr {q : Rat} (h : 0 < q) : revK (fr q) = .leaf (fr q⁻¹) := by
  unfold fr
  rw [revK_t]
  have e1 : (q⁻¹).num = (q.den : Int) := by
    rw [Rat.num_inv]
    have := num_pos h
    rw [Int.sign_eq_one_of_pos this]; omega
  have e2 : ((q⁻¹).den : Int) = q.num := by
    rw [Rat.den_inv]
    have := num_pos h
    rw [if_neg (by omega)]
    omega
  rw [e1, e2]
  rfl
theorem one_right {S0 : Nat} {P : List Rat} (h : LotS S0 P) : AllS (fun d => d = .bl true) (f_law_one_right [.pot, lotD P]) := by
  have l8 := h.q.l8
  have k1 := len_lot P
  obtain ⟨sL, r1, r2, r3⟩ := repr_D (DB.lot (b := 13) (n := 9) h.sz l8) (by omega) (by omega) (by omega)
  have g1 := rng1_n (n := P.length) (by omega)
  have k2 := supp_fr h.q
  have sl : (suppL P).length ≤ 8 := by
    unfold suppL
    rw [List.length_map]
    have := List.length_filter_le (fun j => !((P.getD j 0).num == 0)) (List.range P.length)
    rw [List.length_range] at this
    omega
  have sd : ∀ n, DB 13 (n + 2) 16 (.lst (suppL P)) := fun n => DB.lst (k := 1) (m := 8) (fun x hx => by
    obtain ⟨i, hi, rfl⟩ := List.mem_map.mp hx
    have := List.mem_range.mp (List.mem_filter.mp hi).1
    exact DB.int (show i < 2 ^ 13 from Nat.lt_of_lt_of_le (by omega) (show 100 ≤ 2 ^ 13 by decide))) sl
  obtain ⟨s2, r4, r5, r6⟩ := repr_D (DB.lst (b := 13) (n := 11) (k := 16) (m := 2) (xs := [.lst (suppL P), .lst (suppL P)]) (fun x hx => by
    simp only [List.mem_cons, List.not_mem_nil, or_false, or_self] at hx
    subst hx
    exact sd 9) (by simp)) (by omega) (by omega) (by omega)
  have lr := lr1_n (n := P.length) (by omega)
  unfold f_law_one_right b_law_one_right
  simp only [mDef, En.start, oSeq, oIf, oRet, oSet, oOwn, putOwn_z, putOwn_s, oPar, oNx, oFail, oEx, _root_.R.m2, _root_.R.m1, _root_.R.mA, aCons, aNil, _root_.R.mB, _root_.R.mC, mCh, _root_.R.mT, mNot, mAnd, mOr, mAndV, mOrV, mNotV, mIf, mTup, mLst, mList, asB_b, allS_leaf, wipe_n, wipe_c, wset_z, wset_s, tYesM, oAsg, mLc_1, mLc_2, pairK_t, triK_t, mEnum, mZip, mRange1_b, mRange2_b, oApp, oStore, mOwn_z, mOwn_s, mDefN, oSeqN, mHeard_b, oFrz, frz1_z, frz1_n, frz1_s, oRetN, oSeqX, oRaiseIf, oLift, mDefX, noX, mRevA_b, revK_t, revK_l, oTold_b, oTold0_b, oBk, oCt, oPar3, mCut, mPart, perm_0, perm_01, perm_10, perm_012, perm_021, perm_102, perm_120, perm_201, perm_210, perm_0123, perm_0132, perm_0213, perm_0231, perm_0312, perm_0321, perm_1023, perm_1032, perm_1203, perm_1230, perm_1302, perm_1320, perm_2013, perm_2031, perm_2103, perm_2130, perm_2301, perm_2310, perm_3012, perm_3021, perm_3102, perm_3120, perm_3201, perm_3210, mListR1_b, gPut, gTp, gsCons, gsNil, mSeq, seq_l, seq_t, bind_assoc', bind_leaf, bind_fail, lineOk_1, lineOk_2, lineOk_3, lineOk_s, Nat.reduceLeDiff, mPeek_z, mPeek_s, mVar_z, mVar_s, put_z, put_s, opAdd_i, opSub_i, opNeg_i, cLt_i, cLe_i, cGt_i, cGe_i, cEq_i, cNe_i, fAbs_i, fInt_i, fLen_t, fLen_l, ix0, ix1, Bool.false_eq_true, Bool.not_true, Bool.not_false, List.length_cons, List.length_nil, List.map_cons, List.map_nil, List.cons_append, List.nil_append, List.replicate, Nat.reduceAdd, Nat.reduceSub, Nat.zero_add, if_true, if_false, ↓reduceIte, k1, r1, g1]
  rw [lck_filter (β := Nat) (fun j => !((P.getD j 0).num == 0)) (fun j => .int (j : Int)) (by rw [List.length_range]; omega) (fun i hi => by
    have hi := List.mem_range.mp hi
    simp only [mDef, En.start, oSeq, oIf, oRet, oSet, oOwn, putOwn_z, putOwn_s, oPar, oNx, oFail, oEx, _root_.R.m2, _root_.R.m1, _root_.R.mA, aCons, aNil, _root_.R.mB, _root_.R.mC, mCh, _root_.R.mT, mNot, mAnd, mOr, mAndV, mOrV, mNotV, mIf, mTup, mLst, mList, asB_b, allS_leaf, wipe_n, wipe_c, wset_z, wset_s, tYesM, oAsg, mLc_1, mLc_2, pairK_t, triK_t, mEnum, mZip, mRange1_b, mRange2_b, oApp, oStore, mOwn_z, mOwn_s, mDefN, oSeqN, mHeard_b, oFrz, frz1_z, frz1_n, frz1_s, oRetN, oSeqX, oRaiseIf, oLift, mDefX, noX, mRevA_b, revK_t, revK_l, oTold_b, oTold0_b, oBk, oCt, oPar3, mCut, mPart, perm_0, perm_01, perm_10, perm_012, perm_021, perm_102, perm_120, perm_201, perm_210, perm_0123, perm_0132, perm_0213, perm_0231, perm_0312, perm_0321, perm_1023, perm_1032, perm_1203, perm_1230, perm_1302, perm_1320, perm_2013, perm_2031, perm_2103, perm_2130, perm_2301, perm_2310, perm_3012, perm_3021, perm_3102, perm_3120, perm_3201, perm_3210, mListR1_b, gPut, gTp, gsCons, gsNil, mSeq, seq_l, seq_t, bind_assoc', bind_leaf, bind_fail, lineOk_1, lineOk_2, lineOk_3, lineOk_s, Nat.reduceLeDiff, mPeek_z, mPeek_s, mVar_z, mVar_s, put_z, put_s, opAdd_i, opSub_i, opNeg_i, cLt_i, cLe_i, cGt_i, cGe_i, cEq_i, cNe_i, fAbs_i, fInt_i, fLen_t, fLen_l, ix0, ix1, Bool.false_eq_true, Bool.not_true, Bool.not_false, List.length_cons, List.length_nil, List.map_cons, List.map_nil, List.cons_append, List.nil_append, List.replicate, Nat.reduceAdd, Nat.reduceSub, Nat.zero_add, if_true, if_false, ↓reduceIte, lot_ixD hi, fr_0]
    exact ⟨trivial, fun _ => trivial⟩), show List.map (fun j : Nat => D.int (j : Int)) ((List.range P.length).filter fun j => !((P.getD j 0).num == 0)) = suppL P from rfl]
  simp only [mDef, En.start, oSeq, oIf, oRet, oSet, oOwn, putOwn_z, putOwn_s, oPar, oNx, oFail, oEx, _root_.R.m2, _root_.R.m1, _root_.R.mA, aCons, aNil, _root_.R.mB, _root_.R.mC, mCh, _root_.R.mT, mNot, mAnd, mOr, mAndV, mOrV, mNotV, mIf, mTup, mLst, mList, asB_b, allS_leaf, wipe_n, wipe_c, wset_z, wset_s, tYesM, oAsg, mLc_1, mLc_2, pairK_t, triK_t, mEnum, mZip, mRange1_b, mRange2_b, oApp, oStore, mOwn_z, mOwn_s, mDefN, oSeqN, mHeard_b, oFrz, frz1_z, frz1_n, frz1_s, oRetN, oSeqX, oRaiseIf, oLift, mDefX, noX, mRevA_b, revK_t, revK_l, oTold_b, oTold0_b, oBk, oCt, oPar3, mCut, mPart, perm_0, perm_01, perm_10, perm_012, perm_021, perm_102, perm_120, perm_201, perm_210, perm_0123, perm_0132, perm_0213, perm_0231, perm_0312, perm_0321, perm_1023, perm_1032, perm_1203, perm_1230, perm_1302, perm_1320, perm_2013, perm_2031, perm_2103, perm_2130, perm_2301, perm_2310, perm_3012, perm_3021, perm_3102, perm_3120, perm_3201, perm_3210, mListR1_b, gPut, gTp, gsCons, gsNil, mSeq, seq_l, seq_t, bind_assoc', bind_leaf, bind_fail, lineOk_1, lineOk_2, lineOk_3, lineOk_s, Nat.reduceLeDiff, mPeek_z, mPeek_s, mVar_z, mVar_s, put_z, put_s, opAdd_i, opSub_i, opNeg_i, cLt_i, cLe_i, cGt_i, cGe_i, cEq_i, cNe_i, fAbs_i, fInt_i, fLen_t, fLen_l, ix0, ix1, Bool.false_eq_true, Bool.not_true, Bool.not_false, List.length_cons, List.length_nil, List.map_cons, List.map_nil, List.cons_append, List.nil_append, List.replicate, Nat.reduceAdd, Nat.reduceSub, Nat.zero_add, if_true, if_false, ↓reduceIte, k2]
  rw [toldK_l (Nat.le_trans sl (by omega)) (by simp)]
  simp only [mDef, En.start, oSeq, oIf, oRet, oSet, oOwn, putOwn_z, putOwn_s, oPar, oNx, oFail, oEx, _root_.R.m2, _root_.R.m1, _root_.R.mA, aCons, aNil, _root_.R.mB, _root_.R.mC, mCh, _root_.R.mT, mNot, mAnd, mOr, mAndV, mOrV, mNotV, mIf, mTup, mLst, mList, asB_b, allS_leaf, wipe_n, wipe_c, wset_z, wset_s, tYesM, oAsg, mLc_1, mLc_2, pairK_t, triK_t, mEnum, mZip, mRange1_b, mRange2_b, oApp, oStore, mOwn_z, mOwn_s, mDefN, oSeqN, mHeard_b, oFrz, frz1_z, frz1_n, frz1_s, oRetN, oSeqX, oRaiseIf, oLift, mDefX, noX, mRevA_b, revK_t, revK_l, oTold_b, oTold0_b, oBk, oCt, oPar3, mCut, mPart, perm_0, perm_01, perm_10, perm_012, perm_021, perm_102, perm_120, perm_201, perm_210, perm_0123, perm_0132, perm_0213, perm_0231, perm_0312, perm_0321, perm_1023, perm_1032, perm_1203, perm_1230, perm_1302, perm_1320, perm_2013, perm_2031, perm_2103, perm_2130, perm_2301, perm_2310, perm_3012, perm_3021, perm_3102, perm_3120, perm_3201, perm_3210, mListR1_b, gPut, gTp, gsCons, gsNil, mSeq, seq_l, seq_t, bind_assoc', bind_leaf, bind_fail, lineOk_1, lineOk_2, lineOk_3, lineOk_s, Nat.reduceLeDiff, mPeek_z, mPeek_s, mVar_z, mVar_s, put_z, put_s, opAdd_i, opSub_i, opNeg_i, cLt_i, cLe_i, cGt_i, cGe_i, cEq_i, cNe_i, fAbs_i, fInt_i, fLen_t, fLen_l, ix0, ix1, Bool.false_eq_true, Bool.not_true, Bool.not_false, List.length_cons, List.length_nil, List.map_cons, List.map_nil, List.cons_append, List.nil_append, List.replicate, Nat.reduceAdd, Nat.reduceSub, Nat.zero_add, if_true, if_false, ↓reduceIte, k2, r4, r5]
  simp only [mDef, En.start, oSeq, oIf, oRet, oSet, oOwn, putOwn_z, putOwn_s, oPar, oNx, oFail, oEx, _root_.R.m2, _root_.R.m1, _root_.R.mA, aCons, aNil, _root_.R.mB, _root_.R.mC, mCh, _root_.R.mT, mNot, mAnd, mOr, mAndV, mOrV, mNotV, mIf, mTup, mLst, mList, asB_b, allS_leaf, wipe_n, wipe_c, wset_z, wset_s, tYesM, oAsg, mLc_1, mLc_2, pairK_t, triK_t, mEnum, mZip, mRange1_b, mRange2_b, oApp, oStore, mOwn_z, mOwn_s, mDefN, oSeqN, mHeard_b, oFrz, frz1_z, frz1_n, frz1_s, oRetN, oSeqX, oRaiseIf, oLift, mDefX, noX, mRevA_b, revK_t, revK_l, oTold_b, oTold0_b, oBk, oCt, oPar3, mCut, mPart, perm_0, perm_01, perm_10, perm_012, perm_021, perm_102, perm_120, perm_201, perm_210, perm_0123, perm_0132, perm_0213, perm_0231, perm_0312, perm_0321, perm_1023, perm_1032, perm_1203, perm_1230, perm_1302, perm_1320, perm_2013, perm_2031, perm_2103, perm_2130, perm_2301, perm_2310, perm_3012, perm_3021, perm_3102, perm_3120, perm_3201, perm_3210, mListR1_b, gPut, gTp, gsCons, gsNil, mSeq, seq_l, seq_t, bind_assoc', bind_leaf, bind_fail, lineOk_1, lineOk_2, lineOk_3, lineOk_s, Nat.reduceLeDiff, mPeek_z, mPeek_s, mVar_z, mVar_s, put_z, put_s, opAdd_i, opSub_i, opNeg_i, cLt_i, cLe_i, cGt_i, cGe_i, cEq_i, cNe_i, fAbs_i, fInt_i, fLen_t, fLen_l, ix0, ix1, Bool.false_eq_true, Bool.not_true, Bool.not_false, List.length_cons, List.length_nil, List.map_cons, List.map_nil, List.cons_append, List.nil_append, List.replicate, Nat.reduceAdd, Nat.reduceSub, Nat.zero_add, if_true, if_false, ↓reduceIte, lr]
  rw [allS_bind]
  refine allS_mono (law_mixed_S (y := .lst (iL (List.range P.length))) (.inl rfl) (by simp [iL, fitD]) (by rw [iL_len, List.length_range]; omega)) fun d hd => ?_
  obtain ⟨r, rfl, hr⟩ := hd
  obtain ⟨R, rfl, hR⟩ : ∃ R : List Nat, r = iL R ∧ R.Perm (List.range P.length) := perm_map_ex hr _ rfl
  rw [allS_bind]
  refine allS_go (drS (P.length + 1) (by omega) (by omega)) fun c c0 c1 => ?_
  obtain ⟨c, rfl⟩ := Int.eq_ofNat_of_zero_le c0
  simp only [mDef, En.start, oSeq, oIf, oRet, oSet, oOwn, putOwn_z, putOwn_s, oPar, oNx, oFail, oEx, _root_.R.m2, _root_.R.m1, _root_.R.mA, aCons, aNil, _root_.R.mB, _root_.R.mC, mCh, _root_.R.mT, mNot, mAnd, mOr, mAndV, mOrV, mNotV, mIf, mTup, mLst, mList, asB_b, allS_leaf, wipe_n, wipe_c, wset_z, wset_s, tYesM, oAsg, mLc_1, mLc_2, pairK_t, triK_t, mEnum, mZip, mRange1_b, mRange2_b, oApp, oStore, mOwn_z, mOwn_s, mDefN, oSeqN, mHeard_b, oFrz, frz1_z, frz1_n, frz1_s, oRetN, oSeqX, oRaiseIf, oLift, mDefX, noX, mRevA_b, revK_t, revK_l, oTold_b, oTold0_b, oBk, oCt, oPar3, mCut, mPart, perm_0, perm_01, perm_10, perm_012, perm_021, perm_102, perm_120, perm_201, perm_210, perm_0123, perm_0132, perm_0213, perm_0231, perm_0312, perm_0321, perm_1023, perm_1032, perm_1203, perm_1230, perm_1302, perm_1320, perm_2013, perm_2031, perm_2103, perm_2130, perm_2301, perm_2310, perm_3012, perm_3021, perm_3102, perm_3120, perm_3201, perm_3210, mListR1_b, gPut, gTp, gsCons, gsNil, mSeq, seq_l, seq_t, bind_assoc', bind_leaf, bind_fail, lineOk_1, lineOk_2, lineOk_3, lineOk_s, Nat.reduceLeDiff, mPeek_z, mPeek_s, mVar_z, mVar_s, put_z, put_s, opAdd_i, opSub_i, opNeg_i, cLt_i, cLe_i, cGt_i, cGe_i, cEq_i, cNe_i, fAbs_i, fInt_i, fLen_t, fLen_l, ix0, ix1, Bool.false_eq_true, Bool.not_true, Bool.not_false, List.length_cons, List.length_nil, List.map_cons, List.map_nil, List.cons_append, List.nil_append, List.replicate, Nat.reduceAdd, Nat.reduceSub, Nat.zero_add, if_true, if_false, ↓reduceIte, cut_hi]
  have hRn : R.Nodup := hR.nodup_iff.mpr List.nodup_range
  have hRm : ∀ i ∈ R, i < P.length := fun i hi => List.mem_range.mp (hR.mem_iff.mp hi)
  have hRl : R.length = P.length := by rw [hR.length_eq, List.length_range]
  have eS : List.take c (iL R) = iL (R.take c) := by unfold iL; rw [List.map_take]
  rw [eS]
  have nd : (R.take c).Nodup := hRn.sublist (List.take_sublist c R)
  have lt : ∀ i ∈ R.take c, i < P.length := fun i hi => hRm i (List.mem_of_mem_take hi)
  have sl8 : (R.take c).length ≤ 8 := by rw [List.length_take]; omega
  generalize R.take c = S at *
  clear hR hr hRn hRm hRl eS c0 c1
  have pl : Pls (.lst (iL S)) S P.length := ⟨.inl rfl, nd, lt⟩
  have pt : Pls (.tup (iL S)) S P.length := ⟨.inr rfl, nd, lt⟩
  have hk := has_kn h nd lt
  obtain ⟨b0, b1, b2⟩ := has_bd h nd lt
  have hz := kn_sz hk h.pos (n := 13) (Nat.lt_of_le_of_lt h.le (by decide)) (Nat.lt_of_le_of_lt h.le (by decide))
  rw [show iL S = S.map (fun i : Nat => D.int (i : Int)) from rfl, lck_map (β := Nat) (fun i => fr (P.getD i 0)) (by omega) (fun i hi => ⟨rfl, lot_ixD (lt i hi)⟩), show S.map (fun i : Nat => D.int (i : Int)) = iL S from rfl]
  have t1 := law_total_l (n := 13) (S.map fun i => P.getD i 0) (fun q hq => by
    obtain ⟨i, hi, rfl⟩ := List.mem_map.mp hq
    exact h.sz _ (getD_mem (lt i hi))) (by rw [List.length_map]; omega) (by omega)
  rw [List.map_map] at t1
  have t1 : f_law_total [.lst (S.map fun i => fr (P.getD i 0))] = .leaf (fr (hasR P S)) := t1
  have h1 := has_fr h.q (pl.pl sl8)
  have h2 := has_fr h.q (pt.pl sl8)
  have ft : fTuple [.lst (iL S)] = .leaf (.tup (iL S)) := rfl
  obtain ⟨s3, r7, r8, r9⟩ := repr_D (DB.lst (b := 13) (n := 11) (k := 16) (m := 3) (xs := [.lst (suppL P), fr (hasR P S), fr (hasR P S)]) (fun x hx => by
    simp only [List.mem_cons, List.not_mem_nil, or_false, or_self] at hx
    rcases hx with rfl | rfl
    · exact sd 9
    · exact (DB.fr hz).mono (by omega)) (by simp)) (by omega) (by omega) (by omega)
  have i0 := fr_0 (hasR P S)
  simp only [mDef, En.start, oSeq, oIf, oRet, oSet, oOwn, putOwn_z, putOwn_s, oPar, oNx, oFail, oEx, _root_.R.m2, _root_.R.m1, _root_.R.mA, aCons, aNil, _root_.R.mB, _root_.R.mC, mCh, _root_.R.mT, mNot, mAnd, mOr, mAndV, mOrV, mNotV, mIf, mTup, mLst, mList, asB_b, allS_leaf, wipe_n, wipe_c, wset_z, wset_s, tYesM, oAsg, mLc_1, mLc_2, pairK_t, triK_t, mEnum, mZip, mRange1_b, mRange2_b, oApp, oStore, mOwn_z, mOwn_s, mDefN, oSeqN, mHeard_b, oFrz, frz1_z, frz1_n, frz1_s, oRetN, oSeqX, oRaiseIf, oLift, mDefX, noX, mRevA_b, revK_t, revK_l, oTold_b, oTold0_b, oBk, oCt, oPar3, mCut, mPart, perm_0, perm_01, perm_10, perm_012, perm_021, perm_102, perm_120, perm_201, perm_210, perm_0123, perm_0132, perm_0213, perm_0231, perm_0312, perm_0321, perm_1023, perm_1032, perm_1203, perm_1230, perm_1302, perm_1320, perm_2013, perm_2031, perm_2103, perm_2130, perm_2301, perm_2310, perm_3012, perm_3021, perm_3102, perm_3120, perm_3201, perm_3210, mListR1_b, gPut, gTp, gsCons, gsNil, mSeq, seq_l, seq_t, bind_assoc', bind_leaf, bind_fail, lineOk_1, lineOk_2, lineOk_3, lineOk_s, Nat.reduceLeDiff, mPeek_z, mPeek_s, mVar_z, mVar_s, put_z, put_s, opAdd_i, opSub_i, opNeg_i, cLt_i, cLe_i, cGt_i, cGe_i, cEq_i, cNe_i, fAbs_i, fInt_i, fLen_t, fLen_l, ix0, ix1, Bool.false_eq_true, Bool.not_true, Bool.not_false, List.length_cons, List.length_nil, List.map_cons, List.map_nil, List.cons_append, List.nil_append, List.replicate, Nat.reduceAdd, Nat.reduceSub, Nat.zero_add, if_true, if_false, ↓reduceIte, t1, h1, ft, h2, r7, r8, i0]
  have sq : seqOf (lotD P) = .leaf (P.map fr) := rfl
  have el := enum_lotD P
  have kz : ((!(hasR P S).num == 0) = true) ↔ hasR P S ≠ 0 := by
    have := Rat.num_eq_zero (q := hasR P S)
    rw [Bool.not_eq_true', beq_eq_false_iff_ne, ne_eq, ne_eq, this]
  have gv1 := given_g h pl sl8 b0 hz
  have gv2 := given_g h pt sl8 b0 hz
  refine allS_ite (X := leaf (Out.nx ?E)) (fun hb => ?h1) (fun hb => ?h2) ?h3
  case h1 =>
    have hb := kz.mp hb
    have op : 0 < hasR P S := by grind
    have rv := rev_fr op
    have si : Sz 13 (hasR P S)⁻¹ := by
      obtain ⟨z1, z2⟩ := hz
      have e := rv
      unfold fr at e
      rw [revK_t] at e
      injection e with e
      simp only [List.reverse_cons, List.reverse_nil, List.nil_append, List.cons_append, D.tup.injEq, List.cons.injEq, D.int.injEq, and_true] at e
      exact ⟨by rw [← e.1]; omega, by have := e.2; omega⟩
    simp only [mDef, En.start, oSeq, oIf, oRet, oSet, oOwn, putOwn_z, putOwn_s, oPar, oNx, oFail, oEx, _root_.R.m2, _root_.R.m1, _root_.R.mA, aCons, aNil, _root_.R.mB, _root_.R.mC, mCh, _root_.R.mT, mNot, mAnd, mOr, mAndV, mOrV, mNotV, mIf, mTup, mLst, mList, asB_b, allS_leaf, wipe_n, wipe_c, wset_z, wset_s, tYesM, oAsg, mLc_1, mLc_2, pairK_t, triK_t, mEnum, mZip, mRange1_b, mRange2_b, oApp, oStore, mOwn_z, mOwn_s, mDefN, oSeqN, mHeard_b, oFrz, frz1_z, frz1_n, frz1_s, oRetN, oSeqX, oRaiseIf, oLift, mDefX, noX, mRevA_b, revK_t, revK_l, oTold_b, oTold0_b, oBk, oCt, oPar3, mCut, mPart, perm_0, perm_01, perm_10, perm_012, perm_021, perm_102, perm_120, perm_201, perm_210, perm_0123, perm_0132, perm_0213, perm_0231, perm_0312, perm_0321, perm_1023, perm_1032, perm_1203, perm_1230, perm_1302, perm_1320, perm_2013, perm_2031, perm_2103, perm_2130, perm_2301, perm_2310, perm_3012, perm_3021, perm_3102, perm_3120, perm_3201, perm_3210, mListR1_b, gPut, gTp, gsCons, gsNil, mSeq, seq_l, seq_t, bind_assoc', bind_leaf, bind_fail, lineOk_1, lineOk_2, lineOk_3, lineOk_s, Nat.reduceLeDiff, mPeek_z, mPeek_s, mVar_z, mVar_s, put_z, put_s, opAdd_i, opSub_i, opNeg_i, cLt_i, cLe_i, cGt_i, cGe_i, cEq_i, cNe_i, fAbs_i, fInt_i, fLen_t, fLen_l, ix0, ix1, Bool.false_eq_true, Bool.not_true, Bool.not_false, List.length_cons, List.length_nil, List.map_cons, List.map_nil, List.cons_append, List.nil_append, List.replicate, Nat.reduceAdd, Nat.reduceSub, Nat.zero_add, if_true, if_false, ↓reduceIte, sq, el]
    rw [lck_map (β := Nat) (fun i => fr (if i ∈ S then P.getD i 0 / hasR P S else 0)) (by rw [List.length_range]; omega) (fun i hi => by
      have hi := List.mem_range.mp hi
      simp only [mDef, En.start, oSeq, oIf, oRet, oSet, oOwn, putOwn_z, putOwn_s, oPar, oNx, oFail, oEx, _root_.R.m2, _root_.R.m1, _root_.R.mA, aCons, aNil, _root_.R.mB, _root_.R.mC, mCh, _root_.R.mT, mNot, mAnd, mOr, mAndV, mOrV, mNotV, mIf, mTup, mLst, mList, asB_b, allS_leaf, wipe_n, wipe_c, wset_z, wset_s, tYesM, oAsg, mLc_1, mLc_2, pairK_t, triK_t, mEnum, mZip, mRange1_b, mRange2_b, oApp, oStore, mOwn_z, mOwn_s, mDefN, oSeqN, mHeard_b, oFrz, frz1_z, frz1_n, frz1_s, oRetN, oSeqX, oRaiseIf, oLift, mDefX, noX, mRevA_b, revK_t, revK_l, oTold_b, oTold0_b, oBk, oCt, oPar3, mCut, mPart, perm_0, perm_01, perm_10, perm_012, perm_021, perm_102, perm_120, perm_201, perm_210, perm_0123, perm_0132, perm_0213, perm_0231, perm_0312, perm_0321, perm_1023, perm_1032, perm_1203, perm_1230, perm_1302, perm_1320, perm_2013, perm_2031, perm_2103, perm_2130, perm_2301, perm_2310, perm_3012, perm_3021, perm_3102, perm_3120, perm_3201, perm_3210, mListR1_b, gPut, gTp, gsCons, gsNil, mSeq, seq_l, seq_t, bind_assoc', bind_leaf, bind_fail, lineOk_1, lineOk_2, lineOk_3, lineOk_s, Nat.reduceLeDiff, mPeek_z, mPeek_s, mVar_z, mVar_s, put_z, put_s, opAdd_i, opSub_i, opNeg_i, cLt_i, cLe_i, cGt_i, cGe_i, cEq_i, cNe_i, fAbs_i, fInt_i, fLen_t, fLen_l, ix0, ix1, Bool.false_eq_true, Bool.not_true, Bool.not_false, List.length_cons, List.length_nil, List.map_cons, List.map_nil, List.cons_append, List.nil_append, List.replicate, Nat.reduceAdd, Nat.reduceSub, Nat.zero_add, if_true, if_false, ↓reduceIte, in_pl pl.sq, rv]
      refine ⟨trivial, ?_⟩
      by_cases m : i ∈ S
      · rw [decide_eq_true m, if_pos m, if_pos rfl, law_times_fr ((h.sz _ (getD_mem hi)).mono (by omega)) (si.mono (by omega)), Rat.div_def]
      · rw [decide_eq_false m, if_neg m, if_neg (by decide)]
        rfl)]
    have e : D.tup ((List.range P.length).map fun i => fr (if i ∈ S then P.getD i 0 / hasR P S else 0)) = lateD P S := by
      unfold lateD lotD givenR
      rw [if_neg hb, List.map_map]
      rfl
    simp only [mDef, En.start, oSeq, oIf, oRet, oSet, oOwn, putOwn_z, putOwn_s, oPar, oNx, oFail, oEx, _root_.R.m2, _root_.R.m1, _root_.R.mA, aCons, aNil, _root_.R.mB, _root_.R.mC, mCh, _root_.R.mT, mNot, mAnd, mOr, mAndV, mOrV, mNotV, mIf, mTup, mLst, mList, asB_b, allS_leaf, wipe_n, wipe_c, wset_z, wset_s, tYesM, oAsg, mLc_1, mLc_2, pairK_t, triK_t, mEnum, mZip, mRange1_b, mRange2_b, oApp, oStore, mOwn_z, mOwn_s, mDefN, oSeqN, mHeard_b, oFrz, frz1_z, frz1_n, frz1_s, oRetN, oSeqX, oRaiseIf, oLift, mDefX, noX, mRevA_b, revK_t, revK_l, oTold_b, oTold0_b, oBk, oCt, oPar3, mCut, mPart, perm_0, perm_01, perm_10, perm_012, perm_021, perm_102, perm_120, perm_201, perm_210, perm_0123, perm_0132, perm_0213, perm_0231, perm_0312, perm_0321, perm_1023, perm_1032, perm_1203, perm_1230, perm_1302, perm_1320, perm_2013, perm_2031, perm_2103, perm_2130, perm_2301, perm_2310, perm_3012, perm_3021, perm_3102, perm_3120, perm_3201, perm_3210, mListR1_b, gPut, gTp, gsCons, gsNil, mSeq, seq_l, seq_t, bind_assoc', bind_leaf, bind_fail, lineOk_1, lineOk_2, lineOk_3, lineOk_s, Nat.reduceLeDiff, mPeek_z, mPeek_s, mVar_z, mVar_s, put_z, put_s, opAdd_i, opSub_i, opNeg_i, cLt_i, cLe_i, cGt_i, cGe_i, cEq_i, cNe_i, fAbs_i, fInt_i, fLen_t, fLen_l, ix0, ix1, Bool.false_eq_true, Bool.not_true, Bool.not_false, List.length_cons, List.length_nil, List.map_cons, List.map_nil, List.cons_append, List.nil_append, List.replicate, Nat.reduceAdd, Nat.reduceSub, Nat.zero_add, if_true, if_false, ↓reduceIte, fTuple_l, e]
    exact rfl
  case h2 =>
    have hb : hasR P S = 0 := by
      have := mt kz.mpr (by rw [hb]; decide)
      exact Decidable.not_not.mp this
    have e : D.str (Str.ofString "none") = lateD P S := by
      unfold lateD
      rw [if_pos hb]
    rw [e]
  have m1 : heardK (Str.ofString "none") (if hasR P S = 0 then none else some (lotD (givenR P S))) = .leaf (lateD P S) := by
    unfold lateD
    by_cases z : hasR P S = 0
    · rw [if_pos z, if_pos z]; rfl
    · rw [if_neg z, if_neg z]; rfl
  have ld : DB 13 11 40 (lateD P S) := by
    unfold lateD
    by_cases z : hasR P S = 0
    · rw [if_pos z]
      exact (DB.str (n := 10) (by decide +kernel)).mono (by omega)
    · rw [if_neg z]
      obtain ⟨k, hk⟩ := given_lot h nd lt z
      exact DB.lot (n := 8) hk.sz hk.q.l8
  obtain ⟨s4, r10, r11, r12⟩ := repr_D (DB.lst (b := 13) (n := 11) (k := 40) (m := 2) (xs := [lateD P S, lateD P S]) (fun x hx => by
    simp only [List.mem_cons, List.not_mem_nil, or_false, or_self] at hx
    exact hx ▸ ld) (by simp)) (by omega) (by omega) (by omega)
  simp only [mDef, En.start, oSeq, oIf, oRet, oSet, oOwn, putOwn_z, putOwn_s, oPar, oNx, oFail, oEx, _root_.R.m2, _root_.R.m1, _root_.R.mA, aCons, aNil, _root_.R.mB, _root_.R.mC, mCh, _root_.R.mT, mNot, mAnd, mOr, mAndV, mOrV, mNotV, mIf, mTup, mLst, mList, asB_b, allS_leaf, wipe_n, wipe_c, wset_z, wset_s, tYesM, oAsg, mLc_1, mLc_2, pairK_t, triK_t, mEnum, mZip, mRange1_b, mRange2_b, oApp, oStore, mOwn_z, mOwn_s, mDefN, oSeqN, mHeard_b, oFrz, frz1_z, frz1_n, frz1_s, oRetN, oSeqX, oRaiseIf, oLift, mDefX, noX, mRevA_b, revK_t, revK_l, oTold_b, oTold0_b, oBk, oCt, oPar3, mCut, mPart, perm_0, perm_01, perm_10, perm_012, perm_021, perm_102, perm_120, perm_201, perm_210, perm_0123, perm_0132, perm_0213, perm_0231, perm_0312, perm_0321, perm_1023, perm_1032, perm_1203, perm_1230, perm_1302, perm_1320, perm_2013, perm_2031, perm_2103, perm_2130, perm_2301, perm_2310, perm_3012, perm_3021, perm_3102, perm_3120, perm_3201, perm_3210, mListR1_b, gPut, gTp, gsCons, gsNil, mSeq, seq_l, seq_t, bind_assoc', bind_leaf, bind_fail, lineOk_1, lineOk_2, lineOk_3, lineOk_s, Nat.reduceLeDiff, mPeek_z, mPeek_s, mVar_z, mVar_s, put_z, put_s, opAdd_i, opSub_i, opNeg_i, cLt_i, cLe_i, cGt_i, cGe_i, cEq_i, cNe_i, fAbs_i, fInt_i, fLen_t, fLen_l, ix0, ix1, Bool.false_eq_true, Bool.not_true, Bool.not_false, List.length_cons, List.length_nil, List.map_cons, List.map_nil, List.cons_append, List.nil_append, List.replicate, Nat.reduceAdd, Nat.reduceSub, Nat.zero_add, if_true, if_false, ↓reduceIte, gv1, gv2, m1, ft, slt, List.length_singleton]
  simp only [mDef, En.start, oSeq, oIf, oRet, oSet, oOwn, putOwn_z, putOwn_s, oPar, oNx, oFail, oEx, _root_.R.m2, _root_.R.m1, _root_.R.mA, aCons, aNil, _root_.R.mB, _root_.R.mC, mCh, _root_.R.mT, mNot, mAnd, mOr, mAndV, mOrV, mNotV, mIf, mTup, mLst, mList, asB_b, allS_leaf, wipe_n, wipe_c, wset_z, wset_s, tYesM, oAsg, mLc_1, mLc_2, pairK_t, triK_t, mEnum, mZip, mRange1_b, mRange2_b, oApp, oStore, mOwn_z, mOwn_s, mDefN, oSeqN, mHeard_b, oFrz, frz1_z, frz1_n, frz1_s, oRetN, oSeqX, oRaiseIf, oLift, mDefX, noX, mRevA_b, revK_t, revK_l, oTold_b, oTold0_b, oBk, oCt, oPar3, mCut, mPart, perm_0, perm_01, perm_10, perm_012, perm_021, perm_102, perm_120, perm_201, perm_210, perm_0123, perm_0132, perm_0213, perm_0231, perm_0312, perm_0321, perm_1023, perm_1032, perm_1203, perm_1230, perm_1302, perm_1320, perm_2013, perm_2031, perm_2103, perm_2130, perm_2301, perm_2310, perm_3012, perm_3021, perm_3102, perm_3120, perm_3201, perm_3210, mListR1_b, gPut, gTp, gsCons, gsNil, mSeq, seq_l, seq_t, bind_assoc', bind_leaf, bind_fail, lineOk_1, lineOk_2, lineOk_3, lineOk_s, Nat.reduceLeDiff, mPeek_z, mPeek_s, mVar_z, mVar_s, put_z, put_s, opAdd_i, opSub_i, opNeg_i, cLt_i, cLe_i, cGt_i, cGe_i, cEq_i, cNe_i, fAbs_i, fInt_i, fLen_t, fLen_l, ix0, ix1, Bool.false_eq_true, Bool.not_true, Bool.not_false, List.length_cons, List.length_nil, List.map_cons, List.map_nil, List.cons_append, List.nil_append, List.replicate, Nat.reduceAdd, Nat.reduceSub, Nat.zero_add, if_true, if_false, ↓reduceIte, r10, r11, g1]
  clear r10 r11 r12 r7 r8 r9 r4 r5 r6 m1 ld gv2 h1 h2 t1 ft k2 lr sd sl
  rw [allS_bind]
  refine allS_mono (lckS (β := Nat) (L := List.range P.length) (fun _ d => ∃ w, d = fr w ∧ Kn 27720 332640 w) (by rw [List.length_range]; omega) (fun i hi => ⟨rfl, lfrac_S (by omega) (by omega)⟩)) fun ys hy => ?_
  obtain ⟨zs, rfl, ez, hzs⟩ := hy
  obtain ⟨W, eW, hWl0, hW⟩ := frs_of zs hzs
  rw [eW]
  have hWl : W.length = P.length := by rw [hWl0, ← List.length_map (f := (·.1)) (as := zs), ez, List.length_range]
  clear hWl0 eW ez hzs zs
  have wk : WorthK 27720 332640 W := ⟨by omega, by omega, by omega, hW⟩
  have wsh : ∀ w ∈ W, Sh w := fun w hw => kn_sh (hW w hw) (by omega) (by omega) (by omega)
  have cw1 := chkworths (y := .lst (W.map fr)) (.inl rfl) wsh (by omega)
  have cw2 := chkworths (y := .tup (W.map fr)) (.inr rfl) wsh (by omega)
  rw [hWl] at cw1 cw2
  have e1 := lmean_fr (x := lotD P) (y := .lst (W.map fr)) (n1 := 13) (n2 := 20) rfl rfl h.sz wk.sz l8 (by omega)
  have e2 := lspread_fr (y := .lst (W.map fr)) h wk hWl rfl
  have e3 := mean_fr (y := .tup (W.map fr)) (n2 := 20) h.q rfl wk.sz (by omega) cw2
  have e4 := mean_fr (y := .lst (W.map fr)) (n2 := 20) h.q rfl wk.sz (by omega) cw1
  have e5 := spread_fr (y := .lst (W.map fr)) h.q rfl wk.sz (by omega) cw1
  have q1 := spread_sz h wk hWl
  have q2 : Sz 273 (dotR P W) := by
    have := sum_sz (n := 33) (by omega) _ (dot_sz (P := P) (Q := W) h.sz wk.sz)
    refine this.mono ?_
    rw [List.length_map]
    have := zip_len (Q := W) l8
    omega
  obtain ⟨s5, r13, r14, r15⟩ := repr_D (DB.lst (b := 273) (n := 11) (k := 10) (m := 2) (xs := [.lst [fr (dotR P W), fr (z2 (P.zip W) - z1 (P.zip W) * z1 (P.zip W))], .lst [fr (dotR P W), fr (z2 (P.zip W) - z1 (P.zip W) * z1 (P.zip W))]]) (fun x hx => by
    simp only [List.mem_cons, List.not_mem_nil, or_false, or_self] at hx
    subst hx
    refine DB.lst (k := 4) (m := 2) (fun y hy => ?_) (by simp)
    simp only [List.mem_cons, List.not_mem_nil, or_false] at hy
    rcases hy with rfl | rfl
    · exact DB.fr q2
    · exact DB.fr (q1.mono (by omega))) (by simp)) (by omega) (by omega) (by omega)
  simp only [mDef, En.start, oSeq, oIf, oRet, oSet, oOwn, putOwn_z, putOwn_s, oPar, oNx, oFail, oEx, _root_.R.m2, _root_.R.m1, _root_.R.mA, aCons, aNil, _root_.R.mB, _root_.R.mC, mCh, _root_.R.mT, mNot, mAnd, mOr, mAndV, mOrV, mNotV, mIf, mTup, mLst, mList, asB_b, allS_leaf, wipe_n, wipe_c, wset_z, wset_s, tYesM, oAsg, mLc_1, mLc_2, pairK_t, triK_t, mEnum, mZip, mRange1_b, mRange2_b, oApp, oStore, mOwn_z, mOwn_s, mDefN, oSeqN, mHeard_b, oFrz, frz1_z, frz1_n, frz1_s, oRetN, oSeqX, oRaiseIf, oLift, mDefX, noX, mRevA_b, revK_t, revK_l, oTold_b, oTold0_b, oBk, oCt, oPar3, mCut, mPart, perm_0, perm_01, perm_10, perm_012, perm_021, perm_102, perm_120, perm_201, perm_210, perm_0123, perm_0132, perm_0213, perm_0231, perm_0312, perm_0321, perm_1023, perm_1032, perm_1203, perm_1230, perm_1302, perm_1320, perm_2013, perm_2031, perm_2103, perm_2130, perm_2301, perm_2310, perm_3012, perm_3021, perm_3102, perm_3120, perm_3201, perm_3210, mListR1_b, gPut, gTp, gsCons, gsNil, mSeq, seq_l, seq_t, bind_assoc', bind_leaf, bind_fail, lineOk_1, lineOk_2, lineOk_3, lineOk_s, Nat.reduceLeDiff, mPeek_z, mPeek_s, mVar_z, mVar_s, put_z, put_s, opAdd_i, opSub_i, opNeg_i, cLt_i, cLe_i, cGt_i, cGe_i, cEq_i, cNe_i, fAbs_i, fInt_i, fLen_t, fLen_l, ix0, ix1, Bool.false_eq_true, Bool.not_true, Bool.not_false, List.length_cons, List.length_nil, List.map_cons, List.map_nil, List.cons_append, List.nil_append, List.replicate, Nat.reduceAdd, Nat.reduceSub, Nat.zero_add, if_true, if_false, ↓reduceIte, e1, e2, fTuple_l, e3, e4, e5, r13, r14, g1]
  clear e1 e2 e3 e4 e5 r13 r14 r15 q1 q2 cw1 cw2 wk wsh
  rw [lck_filter (β := Nat) (fun j => !decide (j ∈ S)) (fun j => .int (j : Int)) (by rw [List.length_range]; omega) (fun i hi => by
    have hi := List.mem_range.mp hi
    simp only [mDef, En.start, oSeq, oIf, oRet, oSet, oOwn, putOwn_z, putOwn_s, oPar, oNx, oFail, oEx, _root_.R.m2, _root_.R.m1, _root_.R.mA, aCons, aNil, _root_.R.mB, _root_.R.mC, mCh, _root_.R.mT, mNot, mAnd, mOr, mAndV, mOrV, mNotV, mIf, mTup, mLst, mList, asB_b, allS_leaf, wipe_n, wipe_c, wset_z, wset_s, tYesM, oAsg, mLc_1, mLc_2, pairK_t, triK_t, mEnum, mZip, mRange1_b, mRange2_b, oApp, oStore, mOwn_z, mOwn_s, mDefN, oSeqN, mHeard_b, oFrz, frz1_z, frz1_n, frz1_s, oRetN, oSeqX, oRaiseIf, oLift, mDefX, noX, mRevA_b, revK_t, revK_l, oTold_b, oTold0_b, oBk, oCt, oPar3, mCut, mPart, perm_0, perm_01, perm_10, perm_012, perm_021, perm_102, perm_120, perm_201, perm_210, perm_0123, perm_0132, perm_0213, perm_0231, perm_0312, perm_0321, perm_1023, perm_1032, perm_1203, perm_1230, perm_1302, perm_1320, perm_2013, perm_2031, perm_2103, perm_2130, perm_2301, perm_2310, perm_3012, perm_3021, perm_3102, perm_3120, perm_3201, perm_3210, mListR1_b, gPut, gTp, gsCons, gsNil, mSeq, seq_l, seq_t, bind_assoc', bind_leaf, bind_fail, lineOk_1, lineOk_2, lineOk_3, lineOk_s, Nat.reduceLeDiff, mPeek_z, mPeek_s, mVar_z, mVar_s, put_z, put_s, opAdd_i, opSub_i, opNeg_i, cLt_i, cLe_i, cGt_i, cGe_i, cEq_i, cNe_i, fAbs_i, fInt_i, fLen_t, fLen_l, ix0, ix1, Bool.false_eq_true, Bool.not_true, Bool.not_false, List.length_cons, List.length_nil, List.map_cons, List.map_nil, List.cons_append, List.nil_append, List.replicate, Nat.reduceAdd, Nat.reduceSub, Nat.zero_add, if_true, if_false, ↓reduceIte, in_pl pl.sq]
    exact ⟨trivial, fun _ => trivial⟩), show List.map (fun j : Nat => D.int (j : Int)) ((List.range P.length).filter fun j => !decide (j ∈ S)) = iL (restL P.length S) from rfl]
  have n1 := cNe_fr (hasR P S) 1
  rw [fr_one] at n1
  have i1 := fr_1 (hasR P S)
  simp only [mDef, En.start, oSeq, oIf, oRet, oSet, oOwn, putOwn_z, putOwn_s, oPar, oNx, oFail, oEx, _root_.R.m2, _root_.R.m1, _root_.R.mA, aCons, aNil, _root_.R.mB, _root_.R.mC, mCh, _root_.R.mT, mNot, mAnd, mOr, mAndV, mOrV, mNotV, mIf, mTup, mLst, mList, asB_b, allS_leaf, wipe_n, wipe_c, wset_z, wset_s, tYesM, oAsg, mLc_1, mLc_2, pairK_t, triK_t, mEnum, mZip, mRange1_b, mRange2_b, oApp, oStore, mOwn_z, mOwn_s, mDefN, oSeqN, mHeard_b, oFrz, frz1_z, frz1_n, frz1_s, oRetN, oSeqX, oRaiseIf, oLift, mDefX, noX, mRevA_b, revK_t, revK_l, oTold_b, oTold0_b, oBk, oCt, oPar3, mCut, mPart, perm_0, perm_01, perm_10, perm_012, perm_021, perm_102, perm_120, perm_201, perm_210, perm_0123, perm_0132, perm_0213, perm_0231, perm_0312, perm_0321, perm_1023, perm_1032, perm_1203, perm_1230, perm_1302, perm_1320, perm_2013, perm_2031, perm_2103, perm_2130, perm_2301, perm_2310, perm_3012, perm_3021, perm_3102, perm_3120, perm_3201, perm_3210, mListR1_b, gPut, gTp, gsCons, gsNil, mSeq, seq_l, seq_t, bind_assoc', bind_leaf, bind_fail, lineOk_1, lineOk_2, lineOk_3, lineOk_s, Nat.reduceLeDiff, mPeek_z, mPeek_s, mVar_z, mVar_s, put_z, put_s, opAdd_i, opSub_i, opNeg_i, cLt_i, cLe_i, cGt_i, cGe_i, cEq_i, cNe_i, fAbs_i, fInt_i, fLen_t, fLen_l, ix0, ix1, Bool.false_eq_true, Bool.not_true, Bool.not_false, List.length_cons, List.length_nil, List.map_cons, List.map_nil, List.cons_append, List.nil_append, List.replicate, Nat.reduceAdd, Nat.reduceSub, Nat.zero_add, if_true, if_false, ↓reduceIte, i0, n1, i1]
  have rpl : Pls (.lst (iL (restL P.length S))) (restL P.length S) P.length := rest_pls (.inl rfl)
  have fl : fitD 12 (lotD P) = true := fit_frs P 9
  have kc : ((if (!(hasR P S).num == 0) = true then leaf (!decide (hasR P S = 1)) else leaf false) : Tree Bool) = .leaf (!decide (hasR P S = 0) && !decide (hasR P S = 1)) := by
    by_cases z : hasR P S = 0
    · rw [if_neg (fun q => kz.mp q z), decide_eq_true z]; rfl
    · rw [if_pos (kz.mpr z), decide_eq_false z]; rfl
  simp only [mDef, En.start, oSeq, oIf, oRet, oSet, oOwn, putOwn_z, putOwn_s, oPar, oNx, oFail, oEx, _root_.R.m2, _root_.R.m1, _root_.R.mA, aCons, aNil, _root_.R.mB, _root_.R.mC, mCh, _root_.R.mT, mNot, mAnd, mOr, mAndV, mOrV, mNotV, mIf, mTup, mLst, mList, asB_b, allS_leaf, wipe_n, wipe_c, wset_z, wset_s, tYesM, oAsg, mLc_1, mLc_2, pairK_t, triK_t, mEnum, mZip, mRange1_b, mRange2_b, oApp, oStore, mOwn_z, mOwn_s, mDefN, oSeqN, mHeard_b, oFrz, frz1_z, frz1_n, frz1_s, oRetN, oSeqX, oRaiseIf, oLift, mDefX, noX, mRevA_b, revK_t, revK_l, oTold_b, oTold0_b, oBk, oCt, oPar3, mCut, mPart, perm_0, perm_01, perm_10, perm_012, perm_021, perm_102, perm_120, perm_201, perm_210, perm_0123, perm_0132, perm_0213, perm_0231, perm_0312, perm_0321, perm_1023, perm_1032, perm_1203, perm_1230, perm_1302, perm_1320, perm_2013, perm_2031, perm_2103, perm_2130, perm_2301, perm_2310, perm_3012, perm_3021, perm_3102, perm_3120, perm_3201, perm_3210, mListR1_b, gPut, gTp, gsCons, gsNil, mSeq, seq_l, seq_t, bind_assoc', bind_leaf, bind_fail, lineOk_1, lineOk_2, lineOk_3, lineOk_s, Nat.reduceLeDiff, mPeek_z, mPeek_s, mVar_z, mVar_s, put_z, put_s, opAdd_i, opSub_i, opNeg_i, cLt_i, cLe_i, cGt_i, cGe_i, cEq_i, cNe_i, fAbs_i, fInt_i, fLen_t, fLen_l, ix0, ix1, Bool.false_eq_true, Bool.not_true, Bool.not_false, List.length_cons, List.length_nil, List.map_cons, List.map_nil, List.cons_append, List.nil_append, List.replicate, Nat.reduceAdd, Nat.reduceSub, Nat.zero_add, if_true, if_false, ↓reduceIte, kc]
  refine allS_iteE 11 ?E2 (fun hb => ?g2) ?g0 (fun hb => ?g1) (fun x => ?g3)
  case g2 => exact rfl
  case g0 => exact rfl
  case g1 =>
    have hb : hasR P S ≠ 0 ∧ hasR P S ≠ 1 := by simpa using hb
    have hr := hasR_rest h.q.one nd lt
    have hr0 : hasR P (restL P.length S) ≠ 0 := by rw [hr]; grind
    obtain ⟨k1', lg1⟩ := given_lot h nd lt hb.1
    obtain ⟨k2', lg2⟩ := given_lot h rpl.nd rpl.lt hr0
    have ng := neg_fr (hasR P S)
    have so : Sz 15 (1 - hasR P S) := by
      have := sz_sub (show Sz 1 (1 : Rat) from ⟨by decide, by decide⟩) hz
      exact this.mono (by omega)
    have pl1 := law_plus_fr (p := 1) (q := -(hasR P S)) (Sz.mono (n := 1) ⟨by decide, by decide⟩ (by omega)) ((sz_neg hz).mono (by omega))
    rw [fr_one, show (1 : Rat) + -(hasR P S) = 1 - hasR P S by grind] at pl1
    have kr := has_kn h rpl.nd rpl.lt
    rw [hr] at kr
    have szr := kn_sz kr h.pos (n := 13) (Nat.lt_of_le_of_lt h.le (by decide)) (Nat.lt_of_le_of_lt h.le (by decide))
    have gv3 := given_g h rpl (Nat.le_trans (rest_len _ _) l8) (has_bd h rpl.nd rpl.lt).1 (by rw [hr]; exact szr)
    have fg1 : f_given_that [lotD P, .lst (iL S)] = .leaf (lotD (givenR P S)) := by
      unfold f_given_that noX
      rw [gv1, if_neg hb.1]
      rfl
    have fg2 : f_given_that [lotD P, .lst (iL (restL P.length S))] = .leaf (lotD (givenR P (restL P.length S))) := by
      unfold f_given_that noX
      rw [gv3, if_neg hr0]
      rfl
    have hS := h.le
    have lw : LotQ [hasR P S, 1 - hasR P S] := ⟨by simp, by simp, fun q hq => by
      simp only [List.mem_cons, List.not_mem_nil, or_false] at hq
      rcases hq with rfl | rfl
      · exact b0
      · grind, by rw [List.sum_cons, List.sum_cons, List.sum_nil]; grind, fun q hq => by
      simp only [List.mem_cons, List.not_mem_nil, or_false] at hq
      rcases hq with rfl | rfl
      · exact kn_sh hk h.pos (by omega) (by omega)
      · exact kn_sh kr h.pos (by omega) (by omega)⟩
    have mx := mixed_fr (W := [hasR P S, 1 - hasR P S]) (Ls := [givenR P S, givenR P (restL P.length S)]) (n := P.length) (y := .lst [lotD (givenR P S), lotD (givenR P (restL P.length S))]) lw (fun q hq => by
      simp only [List.mem_cons, List.not_mem_nil, or_false] at hq
      rcases hq with rfl | rfl
      · exact hz
      · exact szr) (.inl rfl) (fun Q hQ => by
      simp only [List.mem_cons, List.not_mem_nil, or_false] at hQ
      rcases hQ with rfl | rfl
      · exact ⟨given_len _ _, lg1.q, lg1.sz⟩
      · exact ⟨given_len _ _, lg2.q, lg2.sz⟩) rfl (by simp) (by simp) l8
    rw [mixed_back h nd lt hb.1 hb.2, show lotD [hasR P S, 1 - hasR P S] = .tup [fr (hasR P S), fr (1 - hasR P S)] from rfl] at mx
    have nl := (ne_self fl).1
    simp only [mDef, En.start, oSeq, oIf, oRet, oSet, oOwn, putOwn_z, putOwn_s, oPar, oNx, oFail, oEx, _root_.R.m2, _root_.R.m1, _root_.R.mA, aCons, aNil, _root_.R.mB, _root_.R.mC, mCh, _root_.R.mT, mNot, mAnd, mOr, mAndV, mOrV, mNotV, mIf, mTup, mLst, mList, asB_b, allS_leaf, wipe_n, wipe_c, wset_z, wset_s, tYesM, oAsg, mLc_1, mLc_2, pairK_t, triK_t, mEnum, mZip, mRange1_b, mRange2_b, oApp, oStore, mOwn_z, mOwn_s, mDefN, oSeqN, mHeard_b, oFrz, frz1_z, frz1_n, frz1_s, oRetN, oSeqX, oRaiseIf, oLift, mDefX, noX, mRevA_b, revK_t, revK_l, oTold_b, oTold0_b, oBk, oCt, oPar3, mCut, mPart, perm_0, perm_01, perm_10, perm_012, perm_021, perm_102, perm_120, perm_201, perm_210, perm_0123, perm_0132, perm_0213, perm_0231, perm_0312, perm_0321, perm_1023, perm_1032, perm_1203, perm_1230, perm_1302, perm_1320, perm_2013, perm_2031, perm_2103, perm_2130, perm_2301, perm_2310, perm_3012, perm_3021, perm_3102, perm_3120, perm_3201, perm_3210, mListR1_b, gPut, gTp, gsCons, gsNil, mSeq, seq_l, seq_t, bind_assoc', bind_leaf, bind_fail, lineOk_1, lineOk_2, lineOk_3, lineOk_s, Nat.reduceLeDiff, mPeek_z, mPeek_s, mVar_z, mVar_s, put_z, put_s, opAdd_i, opSub_i, opNeg_i, cLt_i, cLe_i, cGt_i, cGe_i, cEq_i, cNe_i, fAbs_i, fInt_i, fLen_t, fLen_l, ix0, ix1, Bool.false_eq_true, Bool.not_true, Bool.not_false, List.length_cons, List.length_nil, List.map_cons, List.map_nil, List.cons_append, List.nil_append, List.replicate, Nat.reduceAdd, Nat.reduceSub, Nat.zero_add, if_true, if_false, ↓reduceIte, ng, pl1, fg1, fg2, mx, nl]
    exact ⟨_, rfl⟩
  have pf := parts_fr h
  have bl : botP P ≤ S0 := Nat.le_of_dvd h.pos (botP_dvd h)
  have hS := h.le
  have bp := botP_pos h
  have tsz := tops_sz h
  have tl : (topsP P).length = P.length := by unfold topsP; rw [List.length_map]
  have b26 := bot_sz h
  obtain ⟨s6, r16, r17, r18⟩ := repr_D (d := .tup [.tup ((topsP P).map .int), .int (botP P : Nat)]) (DB.tup (b := 26) (n := 11) (k := 16) (m := 2) (fun x hx => by
    simp only [List.mem_cons, List.not_mem_nil, or_false] at hx
    rcases hx with rfl | rfl
    · refine DB.tup (k := 1) (m := 8) (fun y hy => ?_) (by rw [List.length_map, tl]; exact l8)
      obtain ⟨t, ht, rfl⟩ := List.mem_map.mp hy
      exact DB.int (tsz t ht)
    · exact (DB.int (n := 10) (show ((botP P : Nat) : Int).natAbs < 2 ^ 26 from b26)).mono (by omega)) (by simp)) (by omega) (by omega) (by omega)
  have lf : fList (lotD P) = .leaf (P.map fr) := rfl
  have fp : fitD 12 (.lst (P.map fr)) = true := fit_frs P 9
  have np := (ne_self fp).1
  have cpl := parts_back h
  have ad : opAdd (.tup ((topsP P).map .int)) (.tup [.int (botP P : Nat)]) = .leaf (.tup ((topsP P ++ [((botP P : Nat) : Int)]).map .int)) := by
    rw [List.map_append]
    exact lineOk_s _ _ (by rw [List.length_map, tl]; simp; omega)
  simp only [mDef, En.start, oSeq, oIf, oRet, oSet, oOwn, putOwn_z, putOwn_s, oPar, oNx, oFail, oEx, _root_.R.m2, _root_.R.m1, _root_.R.mA, aCons, aNil, _root_.R.mB, _root_.R.mC, mCh, _root_.R.mT, mNot, mAnd, mOr, mAndV, mOrV, mNotV, mIf, mTup, mLst, mList, asB_b, allS_leaf, wipe_n, wipe_c, wset_z, wset_s, tYesM, oAsg, mLc_1, mLc_2, pairK_t, triK_t, mEnum, mZip, mRange1_b, mRange2_b, oApp, oStore, mOwn_z, mOwn_s, mDefN, oSeqN, mHeard_b, oFrz, frz1_z, frz1_n, frz1_s, oRetN, oSeqX, oRaiseIf, oLift, mDefX, noX, mRevA_b, revK_t, revK_l, oTold_b, oTold0_b, oBk, oCt, oPar3, mCut, mPart, perm_0, perm_01, perm_10, perm_012, perm_021, perm_102, perm_120, perm_201, perm_210, perm_0123, perm_0132, perm_0213, perm_0231, perm_0312, perm_0321, perm_1023, perm_1032, perm_1203, perm_1230, perm_1302, perm_1320, perm_2013, perm_2031, perm_2103, perm_2130, perm_2301, perm_2310, perm_3012, perm_3021, perm_3102, perm_3120, perm_3201, perm_3210, mListR1_b, gPut, gTp, gsCons, gsNil, mSeq, seq_l, seq_t, bind_assoc', bind_leaf, bind_fail, lineOk_1, lineOk_2, lineOk_3, lineOk_s, Nat.reduceLeDiff, mPeek_z, mPeek_s, mVar_z, mVar_s, put_z, put_s, opAdd_i, opSub_i, opNeg_i, cLt_i, cLe_i, cGt_i, cGe_i, cEq_i, cNe_i, fAbs_i, fInt_i, fLen_t, fLen_l, ix0, ix1, Bool.false_eq_true, Bool.not_true, Bool.not_false, List.length_cons, List.length_nil, List.map_cons, List.map_nil, List.cons_append, List.nil_append, List.replicate, Nat.reduceAdd, Nat.reduceSub, Nat.zero_add, if_true, if_false, ↓reduceIte, List.set_cons_succ, List.set_cons_zero, pf, r16, r17, if_true, mListOf, lf]
  rw [tops_D P]
  rw [lck_map (β := Rat) fr (by omega) (fun p hp => ⟨rfl, cpl p hp⟩)]
  rw [← tops_D P]
  simp only [mDef, En.start, oSeq, oIf, oRet, oSet, oOwn, putOwn_z, putOwn_s, oPar, oNx, oFail, oEx, _root_.R.m2, _root_.R.m1, _root_.R.mA, aCons, aNil, _root_.R.mB, _root_.R.mC, mCh, _root_.R.mT, mNot, mAnd, mOr, mAndV, mOrV, mNotV, mIf, mTup, mLst, mList, asB_b, allS_leaf, wipe_n, wipe_c, wset_z, wset_s, tYesM, oAsg, mLc_1, mLc_2, pairK_t, triK_t, mEnum, mZip, mRange1_b, mRange2_b, oApp, oStore, mOwn_z, mOwn_s, mDefN, oSeqN, mHeard_b, oFrz, frz1_z, frz1_n, frz1_s, oRetN, oSeqX, oRaiseIf, oLift, mDefX, noX, mRevA_b, revK_t, revK_l, oTold_b, oTold0_b, oBk, oCt, oPar3, mCut, mPart, perm_0, perm_01, perm_10, perm_012, perm_021, perm_102, perm_120, perm_201, perm_210, perm_0123, perm_0132, perm_0213, perm_0231, perm_0312, perm_0321, perm_1023, perm_1032, perm_1203, perm_1230, perm_1302, perm_1320, perm_2013, perm_2031, perm_2103, perm_2130, perm_2301, perm_2310, perm_3012, perm_3021, perm_3102, perm_3120, perm_3201, perm_3210, mListR1_b, gPut, gTp, gsCons, gsNil, mSeq, seq_l, seq_t, bind_assoc', bind_leaf, bind_fail, lineOk_1, lineOk_2, lineOk_3, lineOk_s, Nat.reduceLeDiff, mPeek_z, mPeek_s, mVar_z, mVar_s, put_z, put_s, opAdd_i, opSub_i, opNeg_i, cLt_i, cLe_i, cGt_i, cGe_i, cEq_i, cNe_i, fAbs_i, fInt_i, fLen_t, fLen_l, ix0, ix1, Bool.false_eq_true, Bool.not_true, Bool.not_false, List.length_cons, List.length_nil, List.map_cons, List.map_nil, List.cons_append, List.nil_append, List.replicate, Nat.reduceAdd, Nat.reduceSub, Nat.zero_add, if_true, if_false, ↓reduceIte, np]
  have none_of := fun (m : Nat) (m2 : 2 ≤ m) => none_of' h m m2
  simp only [mDef, En.start, oSeq, oIf, oRet, oSet, oOwn, putOwn_z, putOwn_s, oPar, oNx, oFail, oEx, _root_.R.m2, _root_.R.m1, _root_.R.mA, aCons, aNil, _root_.R.mB, _root_.R.mC, mCh, _root_.R.mT, mNot, mAnd, mOr, mAndV, mOrV, mNotV, mIf, mTup, mLst, mList, asB_b, allS_leaf, wipe_n, wipe_c, wset_z, wset_s, tYesM, oAsg, mLc_1, mLc_2, pairK_t, triK_t, mEnum, mZip, mRange1_b, mRange2_b, oApp, oStore, mOwn_z, mOwn_s, mDefN, oSeqN, mHeard_b, oFrz, frz1_z, frz1_n, frz1_s, oRetN, oSeqX, oRaiseIf, oLift, mDefX, noX, mRevA_b, revK_t, revK_l, oTold_b, oTold0_b, oBk, oCt, oPar3, mCut, mPart, perm_0, perm_01, perm_10, perm_012, perm_021, perm_102, perm_120, perm_201, perm_210, perm_0123, perm_0132, perm_0213, perm_0231, perm_0312, perm_0321, perm_1023, perm_1032, perm_1203, perm_1230, perm_1302, perm_1320, perm_2013, perm_2031, perm_2103, perm_2130, perm_2301, perm_2310, perm_3012, perm_3021, perm_3102, perm_3120, perm_3201, perm_3210, mListR1_b, gPut, gTp, gsCons, gsNil, mSeq, seq_l, seq_t, bind_assoc', bind_leaf, bind_fail, lineOk_1, lineOk_2, lineOk_3, lineOk_s, Nat.reduceLeDiff, mPeek_z, mPeek_s, mVar_z, mVar_s, put_z, put_s, opAdd_i, opSub_i, opNeg_i, cLt_i, cLe_i, cGt_i, cGe_i, cEq_i, cNe_i, fAbs_i, fInt_i, fLen_t, fLen_l, ix0, ix1, Bool.false_eq_true, Bool.not_true, Bool.not_false, List.length_cons, List.length_nil, List.map_cons, List.map_nil, List.cons_append, List.nil_append, List.replicate, Nat.reduceAdd, Nat.reduceSub, Nat.zero_add, if_true, if_false, ↓reduceIte, ad]
  rw [show [D.int 2, D.int 3, D.int 5, D.int 7, D.int 11, D.int 13] = ([2, 3, 5, 7, 11, 13] : List Nat).map (fun m : Nat => D.int (m : Int)) from rfl, lck_map (β := Nat) (fun _ => .bl false) (by decide) (fun m hm => ⟨rfl, none_of m (by
    simp only [List.mem_cons, List.not_mem_nil, or_false] at hm
    omega)⟩)]
  have fa : fAny [.lst [D.bl false, D.bl false, D.bl false, D.bl false, D.bl false, D.bl false]] = .leaf (.bl false) := rfl
  simp only [mDef, En.start, oSeq, oIf, oRet, oSet, oOwn, putOwn_z, putOwn_s, oPar, oNx, oFail, oEx, _root_.R.m2, _root_.R.m1, _root_.R.mA, aCons, aNil, _root_.R.mB, _root_.R.mC, mCh, _root_.R.mT, mNot, mAnd, mOr, mAndV, mOrV, mNotV, mIf, mTup, mLst, mList, asB_b, allS_leaf, wipe_n, wipe_c, wset_z, wset_s, tYesM, oAsg, mLc_1, mLc_2, pairK_t, triK_t, mEnum, mZip, mRange1_b, mRange2_b, oApp, oStore, mOwn_z, mOwn_s, mDefN, oSeqN, mHeard_b, oFrz, frz1_z, frz1_n, frz1_s, oRetN, oSeqX, oRaiseIf, oLift, mDefX, noX, mRevA_b, revK_t, revK_l, oTold_b, oTold0_b, oBk, oCt, oPar3, mCut, mPart, perm_0, perm_01, perm_10, perm_012, perm_021, perm_102, perm_120, perm_201, perm_210, perm_0123, perm_0132, perm_0213, perm_0231, perm_0312, perm_0321, perm_1023, perm_1032, perm_1203, perm_1230, perm_1302, perm_1320, perm_2013, perm_2031, perm_2103, perm_2130, perm_2301, perm_2310, perm_3012, perm_3021, perm_3102, perm_3120, perm_3201, perm_3210, mListR1_b, gPut, gTp, gsCons, gsNil, mSeq, seq_l, seq_t, bind_assoc', bind_leaf, bind_fail, lineOk_1, lineOk_2, lineOk_3, lineOk_s, Nat.reduceLeDiff, mPeek_z, mPeek_s, mVar_z, mVar_s, put_z, put_s, opAdd_i, opSub_i, opNeg_i, cLt_i, cLe_i, cGt_i, cGe_i, cEq_i, cNe_i, fAbs_i, fInt_i, fLen_t, fLen_l, ix0, ix1, Bool.false_eq_true, Bool.not_true, Bool.not_false, List.length_cons, List.length_nil, List.map_cons, List.map_nil, List.cons_append, List.nil_append, List.replicate, Nat.reduceAdd, Nat.reduceSub, Nat.zero_add, if_true, if_false, ↓reduceIte, fa, r1, r3]
end Law

set_option maxRecDepth 100000
set_option maxHeartbeats 4000000
set_option linter.all false
namespace Law
open R PySem L2
open Tree (leaf fail)
local macro_rules | `(tactic| walk_at "ev") => `(tactic| simp only [mDef, En.start, oSeq, oIf, oRet, oSet, oOwn, putOwn_z, putOwn_s, oPar, oNx, oFail, oEx, m2, m1, mA, aCons, aNil, mB, mC, mCh, mT, mNot, mAnd, mOr, mAndV, mOrV, mNotV, mIf, mTup, mLst, mList, asB_b, allS_leaf, wipe_n, wipe_c, wset_z, wset_s, tYesM, oAsg, mLc_1, mLc_2, pairK_t, triK_t, mEnum, mZip, mRange1_b, mRange2_b, oApp, oStore, mOwn_z, mOwn_s, mDefN, oSeqN, mHeard_b, oFrz, frz1_z, frz1_n, frz1_s, oRetN, oSeqX, oRaiseIf, oLift, mDefX, noX, mRevA_b, revK_t, revK_l, oTold_b, oTold0_b, oBk, oCt, oPar3, mCut, mPart, perm_0, perm_01, perm_10, perm_012, perm_021, perm_102, perm_120, perm_201, perm_210, perm_0123, perm_0132, perm_0213, perm_0231, perm_0312, perm_0321, perm_1023, perm_1032, perm_1203, perm_1230, perm_1302, perm_1320, perm_2013, perm_2031, perm_2103, perm_2130, perm_2301, perm_2310, perm_3012, perm_3021, perm_3102, perm_3120, perm_3201, perm_3210, mListR1_b, gPut, gTp, gsCons, gsNil, mSeq, seq_l, seq_t, bind_assoc', bind_leaf, bind_fail, lineOk_1, lineOk_2, lineOk_3, lineOk_s, Nat.reduceLeDiff, mPeek_z, mPeek_s, mVar_z, mVar_s, put_z, put_s, opAdd_i, opSub_i, opNeg_i, cLt_i, cLe_i, cGt_i, cGe_i, cEq_i, cNe_i, fAbs_i, fInt_i, fLen_t, fLen_l, ix0, ix1, Bool.false_eq_true, Bool.not_true, Bool.not_false,
  List.length_cons, List.length_nil, List.map_cons, List.map_nil, List.cons_append, List.nil_append, List.replicate, Nat.reduceAdd, Nat.reduceSub, Nat.zero_add, if_true, if_false, ↓reduceIte])
/-! ### moved lots -/
theorem atSum_tot {n : Nat} : ∀ Z : List (Rat × Nat), (∀ z ∈ Z, z.2 < n) → ∀ g : Nat → Rat, rsum n (fun i => atSum Z i * g i) = (Z.map fun z => z.1 * g z.2).sum
  | [], _, g => by
    have : rsum n (fun i => atSum [] i * g i) = rsum n (fun i => 0 * g i) := rsum_congr fun i _ => rfl
    rw [this, rsum_mul]
    simp
  | z :: Z, h, g => by
    have ih := atSum_tot Z (fun y hy => h y (List.mem_cons_of_mem _ hy)) g
    have e : rsum n (fun i => atSum (z :: Z) i * g i) = rsum n (fun i => (if i = z.2 then z.1 * g z.2 else 0) + atSum Z i * g i) := rsum_congr fun i _ => by
      rw [atSum_cons]
      by_cases q : i = z.2
      · rw [q, if_pos rfl, if_pos rfl]; grind
      · rw [if_neg q, if_neg (fun c => q c.symm)]; grind
    rw [e, rsum_add, rsum_one, if_pos (h z List.mem_cons_self), ih, List.map_cons, List.sum_cons]
theorem moved_len (P : List Rat) (T : List Nat) (n : Nat) : (movedR P T n).length = n := by unfold movedR; simp
theorem moved_at {P : List Rat} {T : List Nat} {n i : Nat} (h : i < n) : (movedR P T n).getD i 0 = atSum (P.zip T) i := by unfold movedR; simp [h]
theorem dotR_range {n : Nat} {P W : List Rat} (hP : P.length = n) (hW : W.length = n) : dotR P W = rsum n fun i => P.getD i 0 * W.getD i 0 := by
  unfold dotR rsum
  congr 1
  refine List.ext_getElem (by simp [hP, hW]) fun i h1 h2 => ?_
  have a : i < P.length := by simp at h2; omega
  have b : i < W.length := by simp at h2; omega
  simp [a, b]
theorem zip_sum1 {P : List Rat} {T : List Nat} (h : T.length = P.length) : ((P.zip T).map fun z => z.1 * 1).sum = P.sum := by
  have e : ((P.zip T).map fun z => z.1 * 1) = P := by
    have : ((P.zip T).map fun z => z.1 * 1) = (P.zip T).map Prod.fst := List.map_congr_left fun z _ => by grind
    rw [this, List.map_fst_zip (by omega)]
  rw [e]
theorem atSum_nn {Z : List (Rat × Nat)} (h : ∀ z ∈ Z, 0 ≤ z.1) (i : Nat) : 0 ≤ atSum Z i := by
  induction Z with
  | nil => exact Rat.le_refl
  | cons z Z ih =>
    have a := ih fun y hy => h y (List.mem_cons_of_mem _ hy)
    have b := h z List.mem_cons_self
    rw [atSum_cons]
    split <;> grind
theorem atSum_kn {S : Nat} {Z : List (Rat × Nat)} (h : ∀ z ∈ Z, Kn S S z.1) (i : Nat) : ∃ M, Kn S M (atSum Z i) := by
  induction Z with
  | nil => exact ⟨0, kn_zero S⟩
  | cons z Z ih =>
    obtain ⟨M, a⟩ := ih fun y hy => h y (List.mem_cons_of_mem _ hy)
    have b := h z List.mem_cons_self
    rw [atSum_cons]
    by_cases q : z.2 = i
    · rw [if_pos q]; exact ⟨_, kn_add b a⟩
    · rw [if_neg q]; exact ⟨_, kn_add (kn_zero S) a⟩
theorem kn_unit {S M : Nat} {q : Rat} (h0 : 0 < S) (h : Kn S M q) (a : 0 ≤ q) (b : q ≤ 1) : Kn S S q := by
  obtain ⟨k, e, _⟩ := h
  refine ⟨k, e, ?_⟩
  have s0 : (0 : Rat) < ((S : Int) : Rat) := by exact_mod_cast (show (0 : Int) < S by omega)
  have k0 : (0 : Rat) ≤ (k : Rat) := by rw [← e]; exact Rat.mul_nonneg a (by grind)
  have k1 : (k : Rat) ≤ ((S : Int) : Rat) := by
    rw [← e]
    have := Rat.mul_le_mul_of_nonneg_right b (show (0 : Rat) ≤ ((S : Int) : Rat) by grind)
    grind
  have k0' : (0 : Int) ≤ k := by exact_mod_cast k0
  have k1' : k ≤ (S : Int) := by exact_mod_cast k1
  omega
theorem le_rsum {n i : Nat} {f : Nat → Rat} (h : ∀ j, j < n → 0 ≤ f j) (hi : i < n) : f i ≤ rsum n f := by
  have e := rsum_one (a := i) (f i) n
  rw [if_pos hi] at e
  conv => lhs; rw [← e]
  refine rsum_le _ fun j hj => ?_
  have := h j hj
  by_cases q : j = i
  · rw [q, if_pos rfl]; exact Rat.le_refl
  · rw [if_neg q]; exact this
theorem lotS_mk {S : Nat} {L : List Rat} (h0 : 0 < S) (hS : S ≤ 8001) (l1 : 1 ≤ L.length) (l8 : L.length ≤ 8) (nn : ∀ q ∈ L, 0 ≤ q) (one : L.sum = 1) (kn : ∀ q ∈ L, ∃ M, Kn S M q) : LotS S L := by
  have le1 : ∀ q ∈ L, q ≤ 1 := fun q hq => by
    obtain ⟨i, hi, rfl⟩ := List.getElem_of_mem hq
    have a := le_rsum (n := L.length) (f := fun i => L.getD i 0) (fun j hj => nn _ (getD_mem hj)) hi
    rw [rsum_lot, one] at a
    simpa [hi] using a
  have kk : ∀ q ∈ L, Kn S S q := fun q hq => by
    obtain ⟨M, k⟩ := kn q hq
    exact kn_unit h0 k (nn q hq) (le1 q hq)
  exact ⟨⟨l1, l8, nn, one, fun q hq => kn_sh (kk q hq) h0 (by omega) (by omega)⟩, h0, hS, kk⟩
theorem moved_lotS {S n : Nat} {P : List Rat} {T : List Nat} (h : LotS S P) (hl : T.length = P.length) (ht : ∀ t ∈ T, t < n) (n1 : 1 ≤ n) (n8 : n ≤ 8) : LotS S (movedR P T n) := by
  refine lotS_mk h.pos h.le (by rw [moved_len]; exact n1) (by rw [moved_len]; exact n8) (fun q hq => ?_) ?_ (fun q hq => ?_)
  · obtain ⟨i, hi, rfl⟩ := List.mem_map.mp hq
    exact atSum_nn (fun z hz => h.q.nn _ (List.of_mem_zip hz).1) i
  · show rsum n (fun i => atSum (P.zip T) i) = 1
    have e := atSum_tot (n := n) (P.zip T) (fun z hz => ht _ (List.of_mem_zip hz).2) (fun _ => 1)
    rw [zip_sum1 hl, h.q.one] at e
    rw [← e]
    exact rsum_congr fun i _ => by grind
  · obtain ⟨i, hi, rfl⟩ := List.mem_map.mp hq
    exact atSum_kn (fun z hz => h.kn _ (List.of_mem_zip hz).1) i
theorem moved_mean {n : Nat} {P W : List Rat} {T : List Nat} (hl : T.length = P.length) (ht : ∀ t ∈ T, t < n) (hW : W.length = n) : dotR (movedR P T n) W = dotR P (T.map fun t => W.getD t 0) := by
  rw [dotR_range (n := n) (moved_len _ _ _) hW]
  have e := atSum_tot (n := n) (P.zip T) (fun z hz => ht _ (List.of_mem_zip hz).2) (fun t => W.getD t 0)
  have e2 : rsum n (fun i => (movedR P T n).getD i 0 * W.getD i 0) = rsum n (fun i => atSum (P.zip T) i * W.getD i 0) := rsum_congr fun i hi => by rw [moved_at hi]
  rw [e2, e]
  unfold dotR
  rw [List.zip_map_right, List.map_map]
  rfl
theorem sq_draws {n : Nat} (n1 : 1 ≤ n) (n8 : n ≤ 100) {β : Type} : ∀ zs : List (β × D), (∀ z ∈ zs, ∃ i : Int, 0 ≤ i ∧ i < (n : Int) ∧ z.2 = .int i) → ∃ T : List Nat, zs.map (·.2) = iL T ∧ T.length = zs.length ∧ ∀ t ∈ T, t < n
  | [], _ => ⟨[], rfl, rfl, fun _ h => nomatch h⟩
  | z :: zs, h => by
    obtain ⟨i, i0, i1, e⟩ := h z List.mem_cons_self
    obtain ⟨T, e2, hl, hT⟩ := sq_draws n1 n8 zs fun y hy => h y (List.mem_cons_of_mem _ hy)
    refine ⟨i.toNat :: T, ?_, by rw [List.length_cons, List.length_cons, hl], fun t ht => (List.mem_cons.mp ht).elim (fun q => by omega) (hT t)⟩
    rw [List.map_cons, e, e2, ← Int.toNat_of_nonneg i0]
    rfl
theorem ixW {W : List Rat} {t : Nat} (h : t < W.length) : opIx (.lst (W.map fr)) (.int (t : Int)) = .leaf (fr (W.getD t 0)) := by
  rw [(opIx_lt (ds := W.map fr) (k := t) (by rw [List.length_map]; exact h)).1]
  simp [h]
theorem islot_q {L : List Rat} (h : LotQ L) : f_is_lot [lotD L] = .leaf (.bl true) := by
  have k := islot_fr h
  unfold f_is_lot b_is_lot
  simp only [mDef, En.start, oSeq, oIf, oRet, oSet, oOwn, putOwn_z, putOwn_s, oPar, oNx, oFail, oEx, _root_.R.m2, _root_.R.m1, _root_.R.mA, aCons, aNil, _root_.R.mB, _root_.R.mC, mCh, _root_.R.mT, mNot, mAnd, mOr, mAndV, mOrV, mNotV, mIf, mTup, mLst, mList, asB_b, allS_leaf, wipe_n, wipe_c, wset_z, wset_s, tYesM, oAsg, mLc_1, mLc_2, pairK_t, triK_t, mEnum, mZip, mRange1_b, mRange2_b, oApp, oStore, mOwn_z, mOwn_s, mDefN, oSeqN, mHeard_b, oFrz, frz1_z, frz1_n, frz1_s, oRetN, oSeqX, oRaiseIf, oLift, mDefX, noX, mRevA_b, revK_t, revK_l, oTold_b, oTold0_b, oBk, oCt, oPar3, mCut, mPart, perm_0, perm_01, perm_10, perm_012, perm_021, perm_102, perm_120, perm_201, perm_210, perm_0123, perm_0132, perm_0213, perm_0231, perm_0312, perm_0321, perm_1023, perm_1032, perm_1203, perm_1230, perm_1302, perm_1320, perm_2013, perm_2031, perm_2103, perm_2130, perm_2301, perm_2310, perm_3012, perm_3021, perm_3102, perm_3120, perm_3201, perm_3210, mListR1_b, gPut, gTp, gsCons, gsNil, mSeq, seq_l, seq_t, bind_assoc', bind_leaf, bind_fail, lineOk_1, lineOk_2, lineOk_3, lineOk_s, Nat.reduceLeDiff, mPeek_z, mPeek_s, mVar_z, mVar_s, put_z, put_s, opAdd_i, opSub_i, opNeg_i, cLt_i, cLe_i, cGt_i, cGe_i, cEq_i, cNe_i, fAbs_i, fInt_i, fLen_t, fLen_l, ix0, ix1, Bool.false_eq_true, Bool.not_true, Bool.not_false, List.length_cons, List.length_nil, List.map_cons, List.map_nil, List.cons_append, List.nil_append, List.replicate, Nat.reduceAdd, Nat.reduceSub, Nat.zero_add, if_true, if_false, ↓reduceIte, k]
theorem moved_right {S : Nat} {P : List Rat} (h : LotS S P) : AllS (fun d => d = .bl true) (f_law_moved_right [.pot, lotD P]) := by
  have l8 := h.q.l8
  have sq : seqOf (lotD P) = .leaf (P.map fr) := rfl
  unfold f_law_moved_right b_law_moved_right
  simp only [mDef, En.start, oSeq, oIf, oRet, oSet, oOwn, putOwn_z, putOwn_s, oPar, oNx, oFail, oEx, _root_.R.m2, _root_.R.m1, _root_.R.mA, aCons, aNil, _root_.R.mB, _root_.R.mC, mCh, _root_.R.mT, mNot, mAnd, mOr, mAndV, mOrV, mNotV, mIf, mTup, mLst, mList, asB_b, allS_leaf, wipe_n, wipe_c, wset_z, wset_s, tYesM, oAsg, mLc_1, mLc_2, pairK_t, triK_t, mEnum, mZip, mRange1_b, mRange2_b, oApp, oStore, mOwn_z, mOwn_s, mDefN, oSeqN, mHeard_b, oFrz, frz1_z, frz1_n, frz1_s, oRetN, oSeqX, oRaiseIf, oLift, mDefX, noX, mRevA_b, revK_t, revK_l, oTold_b, oTold0_b, oBk, oCt, oPar3, mCut, mPart, perm_0, perm_01, perm_10, perm_012, perm_021, perm_102, perm_120, perm_201, perm_210, perm_0123, perm_0132, perm_0213, perm_0231, perm_0312, perm_0321, perm_1023, perm_1032, perm_1203, perm_1230, perm_1302, perm_1320, perm_2013, perm_2031, perm_2103, perm_2130, perm_2301, perm_2310, perm_3012, perm_3021, perm_3102, perm_3120, perm_3201, perm_3210, mListR1_b, gPut, gTp, gsCons, gsNil, mSeq, seq_l, seq_t, bind_assoc', bind_leaf, bind_fail, lineOk_1, lineOk_2, lineOk_3, lineOk_s, Nat.reduceLeDiff, mPeek_z, mPeek_s, mVar_z, mVar_s, put_z, put_s, opAdd_i, opSub_i, opNeg_i, cLt_i, cLe_i, cGt_i, cGe_i, cEq_i, cNe_i, fAbs_i, fInt_i, fLen_t, fLen_l, ix0, ix1, Bool.false_eq_true, Bool.not_true, Bool.not_false, List.length_cons, List.length_nil, List.map_cons, List.map_nil, List.cons_append, List.nil_append, List.replicate, Nat.reduceAdd, Nat.reduceSub, Nat.zero_add, if_true, if_false, ↓reduceIte]
  rw [allS_bind]
  refine allS_go (drS 8 (by omega) (by omega)) fun i i0 i1 => ?_
  obtain ⟨n, hn, n1, n8⟩ : ∃ n : Nat, 1 + i = (n : Int) ∧ 1 ≤ n ∧ n ≤ 8 := ⟨(1 + i).toNat, by omega, by omega, by omega⟩
  rw [opAdd_i, bind_leaf, hn]
  clear hn i0 i1 i
  simp only [mDef, En.start, oSeq, oIf, oRet, oSet, oOwn, putOwn_z, putOwn_s, oPar, oNx, oFail, oEx, _root_.R.m2, _root_.R.m1, _root_.R.mA, aCons, aNil, _root_.R.mB, _root_.R.mC, mCh, _root_.R.mT, mNot, mAnd, mOr, mAndV, mOrV, mNotV, mIf, mTup, mLst, mList, asB_b, allS_leaf, wipe_n, wipe_c, wset_z, wset_s, tYesM, oAsg, mLc_1, mLc_2, pairK_t, triK_t, mEnum, mZip, mRange1_b, mRange2_b, oApp, oStore, mOwn_z, mOwn_s, mDefN, oSeqN, mHeard_b, oFrz, frz1_z, frz1_n, frz1_s, oRetN, oSeqX, oRaiseIf, oLift, mDefX, noX, mRevA_b, revK_t, revK_l, oTold_b, oTold0_b, oBk, oCt, oPar3, mCut, mPart, perm_0, perm_01, perm_10, perm_012, perm_021, perm_102, perm_120, perm_201, perm_210, perm_0123, perm_0132, perm_0213, perm_0231, perm_0312, perm_0321, perm_1023, perm_1032, perm_1203, perm_1230, perm_1302, perm_1320, perm_2013, perm_2031, perm_2103, perm_2130, perm_2301, perm_2310, perm_3012, perm_3021, perm_3102, perm_3120, perm_3201, perm_3210, mListR1_b, gPut, gTp, gsCons, gsNil, mSeq, seq_l, seq_t, bind_assoc', bind_leaf, bind_fail, lineOk_1, lineOk_2, lineOk_3, lineOk_s, Nat.reduceLeDiff, mPeek_z, mPeek_s, mVar_z, mVar_s, put_z, put_s, opAdd_i, opSub_i, opNeg_i, cLt_i, cLe_i, cGt_i, cGe_i, cEq_i, cNe_i, fAbs_i, fInt_i, fLen_t, fLen_l, ix0, ix1, Bool.false_eq_true, Bool.not_true, Bool.not_false, List.length_cons, List.length_nil, List.map_cons, List.map_nil, List.cons_append, List.nil_append, List.replicate, Nat.reduceAdd, Nat.reduceSub, Nat.zero_add, if_true, if_false, ↓reduceIte, sq]
  rw [allS_bind]
  refine allS_mono (lckS (β := Rat) (L := P) (fun _ d => ∃ i : Int, 0 ≤ i ∧ i < (n : Int) ∧ d = .int i) (by omega) (fun p hp => ⟨rfl, drS (n : Int) (by omega) (by omega)⟩)) fun ys hy => ?_
  obtain ⟨zs, rfl, ez, hzs⟩ := hy
  obtain ⟨T, eT, hTl0, ht⟩ := sq_draws n1 (by omega) zs hzs
  rw [eT]
  have hl : T.length = P.length := by rw [hTl0, ← List.length_map (f := (·.1)) (as := zs), ez]
  clear hTl0 eT ez hzs zs
  have g1 := rng1_n (n := n) (by omega)
  have st : seqOf (.lst (iL T)) = .leaf (iL T) := rfl
  have zp := zip_PT P T
  have c1 : ∀ i, lck (pairK fun a b => cEq b (.int (i : Int))) (pairK fun a b => leaf a) ((P.zip T).map fun z => .tup [fr z.1, .int (z.2 : Int)]) = .leaf (((P.zip T).filter fun z => (z.2 : Int) == i).map fun z => fr z.1) := fun i => lck_filter (β := Rat × Nat) (fun z => (z.2 : Int) == i) (fun z => fr z.1) (by have := zip_len (Q := T) l8; omega) fun z hz => ⟨by rw [pairK_t, cEq_i], fun _ => by rw [pairK_t]⟩
  have c2 : ∀ i : Nat, i < n → f_law_total [.lst (((P.zip T).filter fun z => (z.2 : Int) == (i : Int)).map fun z => fr z.1)] = .leaf (fr (atSum (P.zip T) i)) := fun i hi => by
    have e : ((P.zip T).filter fun z => (z.2 : Int) == (i : Int)) = (P.zip T).filter fun z => z.2 == i := List.filter_congr fun z _ => by
      rw [Bool.eq_iff_iff, beq_iff_eq, beq_iff_eq]; omega
    rw [e]
    have fl := List.length_filter_le (fun z : Rat × Nat => z.2 == i) (P.zip T)
    have zl := zip_len (Q := T) l8
    have t := law_total_l (n := 13) (((P.zip T).filter fun z => z.2 == i).map (·.1)) (fun q hq => by
      obtain ⟨z, hz, rfl⟩ := List.mem_map.mp hq
      exact h.sz _ (List.of_mem_zip (List.mem_filter.mp hz).1).1) (by rw [List.length_map]; omega) (by omega)
    rw [List.map_map] at t
    exact t
  simp only [mDef, En.start, oSeq, oIf, oRet, oSet, oOwn, putOwn_z, putOwn_s, oPar, oNx, oFail, oEx, _root_.R.m2, _root_.R.m1, _root_.R.mA, aCons, aNil, _root_.R.mB, _root_.R.mC, mCh, _root_.R.mT, mNot, mAnd, mOr, mAndV, mOrV, mNotV, mIf, mTup, mLst, mList, asB_b, allS_leaf, wipe_n, wipe_c, wset_z, wset_s, tYesM, oAsg, mLc_1, mLc_2, pairK_t, triK_t, mEnum, mZip, mRange1_b, mRange2_b, oApp, oStore, mOwn_z, mOwn_s, mDefN, oSeqN, mHeard_b, oFrz, frz1_z, frz1_n, frz1_s, oRetN, oSeqX, oRaiseIf, oLift, mDefX, noX, mRevA_b, revK_t, revK_l, oTold_b, oTold0_b, oBk, oCt, oPar3, mCut, mPart, perm_0, perm_01, perm_10, perm_012, perm_021, perm_102, perm_120, perm_201, perm_210, perm_0123, perm_0132, perm_0213, perm_0231, perm_0312, perm_0321, perm_1023, perm_1032, perm_1203, perm_1230, perm_1302, perm_1320, perm_2013, perm_2031, perm_2103, perm_2130, perm_2301, perm_2310, perm_3012, perm_3021, perm_3102, perm_3120, perm_3201, perm_3210, mListR1_b, gPut, gTp, gsCons, gsNil, mSeq, seq_l, seq_t, bind_assoc', bind_leaf, bind_fail, lineOk_1, lineOk_2, lineOk_3, lineOk_s, Nat.reduceLeDiff, mPeek_z, mPeek_s, mVar_z, mVar_s, put_z, put_s, opAdd_i, opSub_i, opNeg_i, cLt_i, cLe_i, cGt_i, cGe_i, cEq_i, cNe_i, fAbs_i, fInt_i, fLen_t, fLen_l, ix0, ix1, Bool.false_eq_true, Bool.not_true, Bool.not_false, List.length_cons, List.length_nil, List.map_cons, List.map_nil, List.cons_append, List.nil_append, List.replicate, Nat.reduceAdd, Nat.reduceSub, Nat.zero_add, if_true, if_false, ↓reduceIte, g1, st, sq, zp]
  rw [lck_map (β := Nat) (fun i => fr (atSum (P.zip T) i)) (by rw [List.length_range]; omega) (fun i hi => ⟨rfl, by
    rw [c1, bind_leaf, c2 i (List.mem_range.mp hi)]⟩)]
  have eD : D.tup ((List.range n).map fun i => fr (atSum (P.zip T) i)) = lotD (movedR P T n) := by
    unfold lotD movedR
    rw [List.map_map]
    rfl
  have ft : fTuple [.lst (iL T)] = .leaf (.tup (iL T)) := rfl
  have m1 := moved_fr (y := .lst (iL T)) h (.inl rfl) hl ht n1 n8
  have m2 := moved_fr (y := .tup (iL T)) h (.inr rfl) hl ht n1 n8
  have hm := moved_lotS h hl ht n1 n8
  obtain ⟨s1, r1, r2, r3⟩ := repr_D (DB.lst (b := 13) (n := 11) (k := 40) (m := 2) (xs := [lotD (movedR P T n), lotD (movedR P T n)]) (fun x hx => by
    simp only [List.mem_cons, List.not_mem_nil, or_false, or_self] at hx
    exact hx ▸ DB.lot (n := 8) hm.sz hm.q.l8) (by simp)) (by omega) (by omega) (by omega)
  simp only [mDef, En.start, oSeq, oIf, oRet, oSet, oOwn, putOwn_z, putOwn_s, oPar, oNx, oFail, oEx, _root_.R.m2, _root_.R.m1, _root_.R.mA, aCons, aNil, _root_.R.mB, _root_.R.mC, mCh, _root_.R.mT, mNot, mAnd, mOr, mAndV, mOrV, mNotV, mIf, mTup, mLst, mList, asB_b, allS_leaf, wipe_n, wipe_c, wset_z, wset_s, tYesM, oAsg, mLc_1, mLc_2, pairK_t, triK_t, mEnum, mZip, mRange1_b, mRange2_b, oApp, oStore, mOwn_z, mOwn_s, mDefN, oSeqN, mHeard_b, oFrz, frz1_z, frz1_n, frz1_s, oRetN, oSeqX, oRaiseIf, oLift, mDefX, noX, mRevA_b, revK_t, revK_l, oTold_b, oTold0_b, oBk, oCt, oPar3, mCut, mPart, perm_0, perm_01, perm_10, perm_012, perm_021, perm_102, perm_120, perm_201, perm_210, perm_0123, perm_0132, perm_0213, perm_0231, perm_0312, perm_0321, perm_1023, perm_1032, perm_1203, perm_1230, perm_1302, perm_1320, perm_2013, perm_2031, perm_2103, perm_2130, perm_2301, perm_2310, perm_3012, perm_3021, perm_3102, perm_3120, perm_3201, perm_3210, mListR1_b, gPut, gTp, gsCons, gsNil, mSeq, seq_l, seq_t, bind_assoc', bind_leaf, bind_fail, lineOk_1, lineOk_2, lineOk_3, lineOk_s, Nat.reduceLeDiff, mPeek_z, mPeek_s, mVar_z, mVar_s, put_z, put_s, opAdd_i, opSub_i, opNeg_i, cLt_i, cLe_i, cGt_i, cGe_i, cEq_i, cNe_i, fAbs_i, fInt_i, fLen_t, fLen_l, ix0, ix1, Bool.false_eq_true, Bool.not_true, Bool.not_false, List.length_cons, List.length_nil, List.map_cons, List.map_nil, List.cons_append, List.nil_append, List.replicate, Nat.reduceAdd, Nat.reduceSub, Nat.zero_add, if_true, if_false, ↓reduceIte, fTuple_l, eD, m1, ft, m2, r1, r2, g1]
  rw [allS_bind]
  refine allS_mono (lckS (β := Nat) (L := List.range n) (fun _ d => ∃ w, d = fr w ∧ Kn 27720 332640 w) (by rw [List.length_range]; omega) (fun i hi => ⟨rfl, lfrac_S (by omega) (by omega)⟩)) fun ys hy => ?_
  obtain ⟨zs, rfl, ez, hzs⟩ := hy
  obtain ⟨W, eW, hWl0, hW⟩ := frs_of zs hzs
  rw [eW]
  have hWl : W.length = n := by rw [hWl0, ← List.length_map (f := (·.1)) (as := zs), ez, List.length_range]
  clear hWl0 eW ez hzs zs
  have wk : WorthK 27720 332640 W := ⟨by omega, by omega, by omega, hW⟩
  have hV : ∀ v ∈ T.map (fun t => W.getD t 0), v ∈ W := fun v hv => by
    obtain ⟨t, ht', rfl⟩ := List.mem_map.mp hv
    exact getD_mem (by rw [hWl]; exact ht t ht')
  have shW : ∀ w ∈ W, Sh w := fun w hw => kn_sh (hW w hw) (by omega) (by omega) (by omega)
  have cw1 := chkworths (y := .lst (W.map fr)) (.inl rfl) shW (by omega)
  rw [show W.length = (movedR P T n).length by rw [moved_len]; exact hWl] at cw1
  have e1 := mean_fr (y := .lst (W.map fr)) (n2 := 20) hm.q rfl wk.sz (by omega) cw1
  have cw2 := chkworths (y := .lst ((T.map fun t => W.getD t 0).map fr)) (.inl rfl) (fun v hv => shW v (hV v hv)) (by rw [List.length_map]; omega)
  rw [List.length_map, hl] at cw2
  have e2 := mean_fr (y := .lst ((T.map fun t => W.getD t 0).map fr)) (n2 := 20) h.q rfl (fun v hv => wk.sz v (hV v hv)) (by omega) cw2
  rw [moved_mean hl ht hWl] at e1
  have c3 : lck (fun _ => leaf true) (fun d => opIx (.lst (W.map fr)) d) (iL T) = .leaf ((T.map fun t => W.getD t 0).map fr) := by
    rw [List.map_map]
    exact lck_map (β := Nat) (L := T) (fun t => fr (W.getD t 0)) (by omega) fun t m => ⟨rfl, ixW (by rw [hWl]; exact ht t m)⟩
  have ce := cEq_fr (dotR P (T.map fun t => W.getD t 0)) (dotR P (T.map fun t => W.getD t 0))
  rw [decide_eq_true rfl] at ce
  have il := islot_q hm.q
  simp only [mDef, En.start, oSeq, oIf, oRet, oSet, oOwn, putOwn_z, putOwn_s, oPar, oNx, oFail, oEx, _root_.R.m2, _root_.R.m1, _root_.R.mA, aCons, aNil, _root_.R.mB, _root_.R.mC, mCh, _root_.R.mT, mNot, mAnd, mOr, mAndV, mOrV, mNotV, mIf, mTup, mLst, mList, asB_b, allS_leaf, wipe_n, wipe_c, wset_z, wset_s, tYesM, oAsg, mLc_1, mLc_2, pairK_t, triK_t, mEnum, mZip, mRange1_b, mRange2_b, oApp, oStore, mOwn_z, mOwn_s, mDefN, oSeqN, mHeard_b, oFrz, frz1_z, frz1_n, frz1_s, oRetN, oSeqX, oRaiseIf, oLift, mDefX, noX, mRevA_b, revK_t, revK_l, oTold_b, oTold0_b, oBk, oCt, oPar3, mCut, mPart, perm_0, perm_01, perm_10, perm_012, perm_021, perm_102, perm_120, perm_201, perm_210, perm_0123, perm_0132, perm_0213, perm_0231, perm_0312, perm_0321, perm_1023, perm_1032, perm_1203, perm_1230, perm_1302, perm_1320, perm_2013, perm_2031, perm_2103, perm_2130, perm_2301, perm_2310, perm_3012, perm_3021, perm_3102, perm_3120, perm_3201, perm_3210, mListR1_b, gPut, gTp, gsCons, gsNil, mSeq, seq_l, seq_t, bind_assoc', bind_leaf, bind_fail, lineOk_1, lineOk_2, lineOk_3, lineOk_s, Nat.reduceLeDiff, mPeek_z, mPeek_s, mVar_z, mVar_s, put_z, put_s, opAdd_i, opSub_i, opNeg_i, cLt_i, cLe_i, cGt_i, cGe_i, cEq_i, cNe_i, fAbs_i, fInt_i, fLen_t, fLen_l, ix0, ix1, Bool.false_eq_true, Bool.not_true, Bool.not_false, List.length_cons, List.length_nil, List.map_cons, List.map_nil, List.cons_append, List.nil_append, List.replicate, Nat.reduceAdd, Nat.reduceSub, Nat.zero_add, if_true, if_false, ↓reduceIte, il, e1, st, c3, e2, ce]
end Law

set_option maxRecDepth 100000
set_option maxHeartbeats 4000000
set_option linter.all false
namespace Law
open R PySem L2
open Tree (leaf fail)
local macro_rules | `(tactic| walk_at "ev") => `(tactic| simp only [mDef, En.start, oSeq, oIf, oRet, oSet, oOwn, putOwn_z, putOwn_s, oPar, oNx, oFail, oEx, m2, m1, mA, aCons, aNil, mB, mC, mCh, mT, mNot, mAnd, mOr, mAndV, mOrV, mNotV, mIf, mTup, mLst, mList, asB_b, allS_leaf, wipe_n, wipe_c, wset_z, wset_s, tYesM, oAsg, mLc_1, mLc_2, pairK_t, triK_t, mEnum, mZip, mRange1_b, mRange2_b, oApp, oStore, mOwn_z, mOwn_s, mDefN, oSeqN, mHeard_b, oFrz, frz1_z, frz1_n, frz1_s, oRetN, oSeqX, oRaiseIf, oLift, mDefX, noX, mRevA_b, revK_t, revK_l, oTold_b, oTold0_b, oBk, oCt, oPar3, mCut, mPart, perm_0, perm_01, perm_10, perm_012, perm_021, perm_102, perm_120, perm_201, perm_210, perm_0123, perm_0132, perm_0213, perm_0231, perm_0312, perm_0321, perm_1023, perm_1032, perm_1203, perm_1230, perm_1302, perm_1320, perm_2013, perm_2031, perm_2103, perm_2130, perm_2301, perm_2310, perm_3012, perm_3021, perm_3102, perm_3120, perm_3201, perm_3210, mListR1_b, gPut, gTp, gsCons, gsNil, mSeq, seq_l, seq_t, bind_assoc', bind_leaf, bind_fail, lineOk_1, lineOk_2, lineOk_3, lineOk_s, Nat.reduceLeDiff, mPeek_z, mPeek_s, mVar_z, mVar_s, put_z, put_s, opAdd_i, opSub_i, opNeg_i, cLt_i, cLe_i, cGt_i, cGe_i, cEq_i, cNe_i, fAbs_i, fInt_i, fLen_t, fLen_l, ix0, ix1, Bool.false_eq_true, Bool.not_true, Bool.not_false,
  List.length_cons, List.length_nil, List.map_cons, List.map_nil, List.cons_append, List.nil_append, List.replicate, Nat.reduceAdd, Nat.reduceSub, Nat.zero_add, if_true, if_false, ↓reduceIte])
/-! ### the law's main def -/
/-- a lot of any size in bits -/
theorem islot_sz {L : List Rat} {n : Nat} (hn : n ≤ 400) (hs : ∀ q ∈ L, Sz n q) (l1 : 1 ≤ L.length) (l8 : L.length ≤ 8) (nn : ∀ q ∈ L, 0 ≤ q) (one : L.sum = 1) : f_is_lot [lotD L] = .leaf (.bl true) := by
  have ht := total_t L hs (by
    have : L.length * (n + 1) ≤ 8 * (n + 1) := Nat.mul_le_mul_right _ l8
    omega) (by omega)
  rw [one] at ht
  have ht : f_total [lotD L] = .leaf (fr 1) := ht
  have hl := len_lot L
  have hi : fIsi [lotD L, .ty "tuple"] = .leaf (.bl true) := rfl
  have he := cEq_fr 1 1
  rw [decide_eq_true rfl, fr_one] at he
  rw [fr_one] at ht
  have sq : seqOf (lotD L) = .leaf (L.map fr) := rfl
  have d1 : decide ((1 : Int) ≤ (L.length : Int)) = true := decide_eq_true (by omega)
  have d2 : decide ((L.length : Int) ≤ 8) = true := decide_eq_true (by omega)
  have a1 := all_true L
  have k : f_is_lot_of [lotD L] = .leaf (.bl true) := by
    unfold f_is_lot_of b_is_lot_of
    simp only [mDef, En.start, oSeq, oIf, oRet, oSet, oOwn, putOwn_z, putOwn_s, oPar, oNx, oFail, oEx, _root_.R.m2, _root_.R.m1, _root_.R.mA, aCons, aNil, _root_.R.mB, _root_.R.mC, mCh, _root_.R.mT, mNot, mAnd, mOr, mAndV, mOrV, mNotV, mIf, mTup, mLst, mList, asB_b, allS_leaf, wipe_n, wipe_c, wset_z, wset_s, tYesM, oAsg, mLc_1, mLc_2, pairK_t, triK_t, mEnum, mZip, mRange1_b, mRange2_b, oApp, oStore, mOwn_z, mOwn_s, mDefN, oSeqN, mHeard_b, oFrz, frz1_z, frz1_n, frz1_s, oRetN, oSeqX, oRaiseIf, oLift, mDefX, noX, mRevA_b, revK_t, revK_l, oTold_b, oTold0_b, oBk, oCt, oPar3, mCut, mPart, perm_0, perm_01, perm_10, perm_012, perm_021, perm_102, perm_120, perm_201, perm_210, perm_0123, perm_0132, perm_0213, perm_0231, perm_0312, perm_0321, perm_1023, perm_1032, perm_1203, perm_1230, perm_1302, perm_1320, perm_2013, perm_2031, perm_2103, perm_2130, perm_2301, perm_2310, perm_3012, perm_3021, perm_3102, perm_3120, perm_3201, perm_3210, mListR1_b, gPut, gTp, gsCons, gsNil, mSeq, seq_l, seq_t, bind_assoc', bind_leaf, bind_fail, lineOk_1, lineOk_2, lineOk_3, lineOk_s, Nat.reduceLeDiff, mPeek_z, mPeek_s, mVar_z, mVar_s, put_z, put_s, opAdd_i, opSub_i, opNeg_i, cLt_i, cLe_i, cGt_i, cGe_i, cEq_i, cNe_i, fAbs_i, fInt_i, fLen_t, fLen_l, ix0, ix1, Bool.false_eq_true, Bool.not_true, Bool.not_false, List.length_cons, List.length_nil, List.map_cons, List.map_nil, List.cons_append, List.nil_append, List.replicate, Nat.reduceAdd, Nat.reduceSub, Nat.zero_add, if_true, if_false, ↓reduceIte, hi, hl, d1, d2, sq]
    rw [lck_map (β := Rat) (fun _ => .bl true) (by omega) (fun q hq => ⟨rfl, by
      have k1 := fracof_fr ((hs q hq).mono (m := 8000) (by omega))
      have k2 : decide (0 ≤ q.num) = true := decide_eq_true (Rat.num_nonneg.mpr (nn q hq))
      simp only [mDef, En.start, oSeq, oIf, oRet, oSet, oOwn, putOwn_z, putOwn_s, oPar, oNx, oFail, oEx, _root_.R.m2, _root_.R.m1, _root_.R.mA, aCons, aNil, _root_.R.mB, _root_.R.mC, mCh, _root_.R.mT, mNot, mAnd, mOr, mAndV, mOrV, mNotV, mIf, mTup, mLst, mList, asB_b, allS_leaf, wipe_n, wipe_c, wset_z, wset_s, tYesM, oAsg, mLc_1, mLc_2, pairK_t, triK_t, mEnum, mZip, mRange1_b, mRange2_b, oApp, oStore, mOwn_z, mOwn_s, mDefN, oSeqN, mHeard_b, oFrz, frz1_z, frz1_n, frz1_s, oRetN, oSeqX, oRaiseIf, oLift, mDefX, noX, mRevA_b, revK_t, revK_l, oTold_b, oTold0_b, oBk, oCt, oPar3, mCut, mPart, perm_0, perm_01, perm_10, perm_012, perm_021, perm_102, perm_120, perm_201, perm_210, perm_0123, perm_0132, perm_0213, perm_0231, perm_0312, perm_0321, perm_1023, perm_1032, perm_1203, perm_1230, perm_1302, perm_1320, perm_2013, perm_2031, perm_2103, perm_2130, perm_2301, perm_2310, perm_3012, perm_3021, perm_3102, perm_3120, perm_3201, perm_3210, mListR1_b, gPut, gTp, gsCons, gsNil, mSeq, seq_l, seq_t, bind_assoc', bind_leaf, bind_fail, lineOk_1, lineOk_2, lineOk_3, lineOk_s, Nat.reduceLeDiff, mPeek_z, mPeek_s, mVar_z, mVar_s, put_z, put_s, opAdd_i, opSub_i, opNeg_i, cLt_i, cLe_i, cGt_i, cGe_i, cEq_i, cNe_i, fAbs_i, fInt_i, fLen_t, fLen_l, ix0, ix1, Bool.false_eq_true, Bool.not_true, Bool.not_false, List.length_cons, List.length_nil, List.map_cons, List.map_nil, List.cons_append, List.nil_append, List.replicate, Nat.reduceAdd, Nat.reduceSub, Nat.zero_add, if_true, if_false, ↓reduceIte, k1, fr_0, k2]⟩)]
    simp only [mDef, En.start, oSeq, oIf, oRet, oSet, oOwn, putOwn_z, putOwn_s, oPar, oNx, oFail, oEx, _root_.R.m2, _root_.R.m1, _root_.R.mA, aCons, aNil, _root_.R.mB, _root_.R.mC, mCh, _root_.R.mT, mNot, mAnd, mOr, mAndV, mOrV, mNotV, mIf, mTup, mLst, mList, asB_b, allS_leaf, wipe_n, wipe_c, wset_z, wset_s, tYesM, oAsg, mLc_1, mLc_2, pairK_t, triK_t, mEnum, mZip, mRange1_b, mRange2_b, oApp, oStore, mOwn_z, mOwn_s, mDefN, oSeqN, mHeard_b, oFrz, frz1_z, frz1_n, frz1_s, oRetN, oSeqX, oRaiseIf, oLift, mDefX, noX, mRevA_b, revK_t, revK_l, oTold_b, oTold0_b, oBk, oCt, oPar3, mCut, mPart, perm_0, perm_01, perm_10, perm_012, perm_021, perm_102, perm_120, perm_201, perm_210, perm_0123, perm_0132, perm_0213, perm_0231, perm_0312, perm_0321, perm_1023, perm_1032, perm_1203, perm_1230, perm_1302, perm_1320, perm_2013, perm_2031, perm_2103, perm_2130, perm_2301, perm_2310, perm_3012, perm_3021, perm_3102, perm_3120, perm_3201, perm_3210, mListR1_b, gPut, gTp, gsCons, gsNil, mSeq, seq_l, seq_t, bind_assoc', bind_leaf, bind_fail, lineOk_1, lineOk_2, lineOk_3, lineOk_s, Nat.reduceLeDiff, mPeek_z, mPeek_s, mVar_z, mVar_s, put_z, put_s, opAdd_i, opSub_i, opNeg_i, cLt_i, cLe_i, cGt_i, cGe_i, cEq_i, cNe_i, fAbs_i, fInt_i, fLen_t, fLen_l, ix0, ix1, Bool.false_eq_true, Bool.not_true, Bool.not_false, List.length_cons, List.length_nil, List.map_cons, List.map_nil, List.cons_append, List.nil_append, List.replicate, Nat.reduceAdd, Nat.reduceSub, Nat.zero_add, if_true, if_false, ↓reduceIte, a1, ht, he]
  unfold f_is_lot b_is_lot
  simp only [mDef, En.start, oSeq, oIf, oRet, oSet, oOwn, putOwn_z, putOwn_s, oPar, oNx, oFail, oEx, _root_.R.m2, _root_.R.m1, _root_.R.mA, aCons, aNil, _root_.R.mB, _root_.R.mC, mCh, _root_.R.mT, mNot, mAnd, mOr, mAndV, mOrV, mNotV, mIf, mTup, mLst, mList, asB_b, allS_leaf, wipe_n, wipe_c, wset_z, wset_s, tYesM, oAsg, mLc_1, mLc_2, pairK_t, triK_t, mEnum, mZip, mRange1_b, mRange2_b, oApp, oStore, mOwn_z, mOwn_s, mDefN, oSeqN, mHeard_b, oFrz, frz1_z, frz1_n, frz1_s, oRetN, oSeqX, oRaiseIf, oLift, mDefX, noX, mRevA_b, revK_t, revK_l, oTold_b, oTold0_b, oBk, oCt, oPar3, mCut, mPart, perm_0, perm_01, perm_10, perm_012, perm_021, perm_102, perm_120, perm_201, perm_210, perm_0123, perm_0132, perm_0213, perm_0231, perm_0312, perm_0321, perm_1023, perm_1032, perm_1203, perm_1230, perm_1302, perm_1320, perm_2013, perm_2031, perm_2103, perm_2130, perm_2301, perm_2310, perm_3012, perm_3021, perm_3102, perm_3120, perm_3201, perm_3210, mListR1_b, gPut, gTp, gsCons, gsNil, mSeq, seq_l, seq_t, bind_assoc', bind_leaf, bind_fail, lineOk_1, lineOk_2, lineOk_3, lineOk_s, Nat.reduceLeDiff, mPeek_z, mPeek_s, mVar_z, mVar_s, put_z, put_s, opAdd_i, opSub_i, opNeg_i, cLt_i, cLe_i, cGt_i, cGe_i, cEq_i, cNe_i, fAbs_i, fInt_i, fLen_t, fLen_l, ix0, ix1, Bool.false_eq_true, Bool.not_true, Bool.not_false, List.length_cons, List.length_nil, List.map_cons, List.map_nil, List.cons_append, List.nil_append, List.replicate, Nat.reduceAdd, Nat.reduceSub, Nat.zero_add, if_true, if_false, ↓reduceIte, k]
theorem pick_S {ds : List D} {P : D → Prop} {L : List Nat} (e : ds = L.map fun i : Nat => .int (i : Int)) (h0 : 0 < L.length) (h1 : L.length ≤ 100) (h : ∀ i ∈ L, P (.int (i : Int))) : AllS P (f_law_pick [.pot, .lst ds]) := by
  subst e
  exact pickS (by rw [List.length_map]; exact h0) (by rw [List.length_map]; exact h1) fun d hd => by
    obtain ⟨i, hi, rfl⟩ := List.mem_map.mp hd
    exact h i hi
structure LotB (n b : Nat) (P : List Rat) : Prop where
  len : P.length = n
  ex : ∃ S, LotS S P ∧ S < 2 ^ b
theorem LotB.sz {n b : Nat} {P : List Rat} (h : LotB n b P) : ∀ p ∈ P, Sz b p := fun p hp => by
  obtain ⟨S, hS, hb⟩ := h.ex
  exact kn_sz (hS.kn p hp) hS.pos hb hb
theorem LotB.q {n b : Nat} {P : List Rat} (h : LotB n b P) : LotQ P := by
  obtain ⟨S, hS, hb⟩ := h.ex
  exact hS.q
theorem lots_of {n b : Nat} {β : Type} : ∀ zs : List (β × D), (∀ z ∈ zs, ∃ P, z.2 = lotD P ∧ LotB n b P) → ∃ Ls : List (List Rat), zs.map (·.2) = Ls.map lotD ∧ Ls.length = zs.length ∧ ∀ P ∈ Ls, LotB n b P
  | [], _ => ⟨[], rfl, rfl, fun _ h => nomatch h⟩
  | z :: zs, h => by
    obtain ⟨w, e, k⟩ := h z List.mem_cons_self
    obtain ⟨W, e2, hl, hW⟩ := lots_of zs fun y hy => h y (List.mem_cons_of_mem _ hy)
    exact ⟨w :: W, by rw [List.map_cons, List.map_cons, e, e2], by rw [List.length_cons, List.length_cons, hl], fun q hq => (List.mem_cons.mp hq).elim (fun e => e ▸ k) (hW q)⟩
theorem lot_B {n w b : Nat} (n1 : 1 ≤ n) (n8 : n ≤ 8) (w1 : 1 ≤ w) (w2 : w ≤ 1000) (hb : n * w + 1 < 2 ^ b) : AllS (fun d => ∃ P, d = lotD P ∧ LotB n b P) (f_law_lot [.pot, .int (n : Int), .int (w : Int)]) :=
  allS_mono (lot_S n1 n8 (by omega) (by omega)) fun d hd => by
    rw [Int.toNat_natCast] at hd
    obtain ⟨P, S, e, hl, hs, hle⟩ := lotL_s hd n1 n8
    exact ⟨P, e, hl, S, hs, by omega⟩
theorem mixed_dot (Z : List (Rat × List Rat)) (n : Nat) (h : ∀ z ∈ Z, z.2.length = n ∧ z.2.sum = 1) : rsum n (fun i => (Z.map fun z => z.1 * z.2.getD i 0).sum) = (Z.map fun z => z.1).sum := by
  induction Z with
  | nil =>
    have : rsum n (fun i => (([] : List (Rat × List Rat)).map fun z => z.1 * z.2.getD i 0).sum) = rsum n (fun _ => 0 * 0) := rsum_congr fun i _ => by simp
    rw [this, rsum_mul]
    simp
  | cons z Z ih =>
    have ih := ih fun y hy => h y (List.mem_cons_of_mem _ hy)
    have hz := h z List.mem_cons_self
    have e : rsum n (fun i => ((z :: Z).map fun z => z.1 * z.2.getD i 0).sum) = rsum n (fun i => z.1 * z.2.getD i 0 + (Z.map fun z => z.1 * z.2.getD i 0).sum) := rsum_congr fun i _ => by rw [List.map_cons, List.sum_cons]
    rw [e, rsum_add, rsum_mul, ih, List.map_cons, List.sum_cons, ← hz.1, rsum_lot, hz.2]
    grind
theorem mixed_sum {W : List Rat} {Ls : List (List Rat)} {n : Nat} (hW : W.sum = 1) (hl : W.length = Ls.length) (h : ∀ P ∈ Ls, P.length = n ∧ P.sum = 1) : (mixedR W Ls n).sum = 1 := by
  have e := mixed_dot (W.zip Ls) n fun z hz => h _ (List.of_mem_zip hz).2
  have e2 : ((W.zip Ls).map fun z => z.1).sum = W.sum := by rw [show (fun z : Rat × List Rat => z.1) = Prod.fst from rfl, List.map_fst_zip (by omega)]
  rw [e2, hW] at e
  rw [← e]
  show rsum n _ = _
  refine rsum_congr fun i _ => ?_
  unfold dotR
  rw [List.zip_map_right, List.map_map]
  rfl
theorem sum_nn : ∀ L : List Rat, (∀ q ∈ L, 0 ≤ q) → 0 ≤ L.sum
  | [], _ => Rat.le_refl
  | q :: L, h => by
    have a := h q List.mem_cons_self
    have b := sum_nn L fun y hy => h y (List.mem_cons_of_mem _ hy)
    rw [List.sum_cons]
    grind
theorem sum_mulL (c : Rat) : ∀ L : List Rat, (L.map fun q => c * q).sum = c * L.sum
  | [] => by simp
  | q :: L => by rw [List.map_cons, List.sum_cons, List.sum_cons, sum_mulL c L]; grind
theorem sum_mulR (c : Rat) : ∀ L : List Rat, (L.map fun q => q * c).sum = L.sum * c
  | [] => by simp
  | q :: L => by rw [List.map_cons, List.sum_cons, List.sum_cons, sum_mulR c L]; grind
theorem bls_all : ∀ ys : List D, (∀ y ∈ ys, y = D.bl true) → fAll [.lst ys] = .leaf (.bl true)
  | ys, h => by
    have : ys = ys.map fun _ => D.bl true := by
      conv => lhs; rw [← List.map_id ys]
      exact List.map_congr_left fun y hy => h y hy
    rw [this]
    exact all_true ys
theorem cut3 (ds : List D) : opCut none (some 3) (.lst ds) = .leaf (.lst (ds.take 3)) := cut_hi (k := 3)

theorem toldK0_of {i : Nat} {mt : En → Tree Bool} {mr : En → Tree Out} {E : En} {xs : List D} (h : ∃ ds es, xs = .lst ds :: es ∧ ds.length ≤ 100) (hi : i < E.length) : toldK0 i mt mr E (.lst xs) = (mt (E.put i (.lst xs))).bind fun c => if c = true then leaf (.rt (.bl false)) else mr (wset E i) := by
  obtain ⟨ds, es, rfl, hl⟩ := h
  exact toldK0_l hl hi
theorem max2_i (i j : Int) : fMax2 [.int i, .int j] = .leaf (.int (if j > i then j else i)) := rfl
theorem min2_i (i j : Int) : fMin2 [.int i, .int j] = .leaf (.int (if j < i then j else i)) := rfl
theorem pot_if {p q : Int} (h0 : 0 ≤ p) (h1 : 0 ≤ q) (h2 : q < 4294967296) : (decide (0 ≤ p) && decide (0 ≤ q) && decide (q < 4294967296)) = true := by
  rw [decide_eq_true h0, decide_eq_true h1, decide_eq_true h2]; rfl
theorem small_bb {i : Int} (h : i.natAbs < 10 ^ 40) : i.natAbs < BB := Nat.lt_of_lt_of_le h (by decide +kernel)
theorem scr_at (ns : List Int) (k : Nat) (h : k < ns.length) : ∃ a, opIx (.scr ns) (.int (k : Int)) = .leaf (.int a) := by
  refine ⟨ns[k], ?_⟩
  show ixO _ _ _ = _
  unfold ixO atI ixN
  simp [h]

def potK : List D → Tree Out
  | [.int p, .int q] => if (decide (0 ≤ p) && decide (0 ≤ q) && decide (q < 4294967296)) = true then leaf (.rt .pot) else fail
  | _ => fail
theorem oPot_b {ml : En → Tree (List D)} {E : En} : oPot ml E = (ml E).bind potK := by
  unfold oPot
  congr 1
theorem potK_i {p q : Int} (h : (decide (0 ≤ p) && decide (0 ≤ q) && decide (q < 4294967296)) = true) : potK [.int p, .int q] = .leaf (.rt .pot) := if_pos h
end Law

set_option maxRecDepth 100000
set_option maxHeartbeats 4000000
set_option linter.all false
namespace Law
open R PySem L2
open Tree (leaf fail)
local macro_rules | `(tactic| walk_at "ev") => `(tactic| simp only [mDef, En.start, oSeq, oIf, oRet, oSet, oOwn, putOwn_z, putOwn_s, oPar, oNx, oFail, oEx, m2, m1, mA, aCons, aNil, mB, mC, mCh, mT, mNot, mAnd, mOr, mAndV, mOrV, mNotV, mIf, mTup, mLst, mList, asB_b, allS_leaf, wipe_n, wipe_c, wset_z, wset_s, tYesM, oAsg, mLc_1, mLc_2, pairK_t, triK_t, mEnum, mZip, mRange1_b, mRange2_b, oApp, oStore, mOwn_z, mOwn_s, mDefN, oSeqN, mHeard_b, oFrz, frz1_z, frz1_n, frz1_s, oRetN, oSeqX, oRaiseIf, oLift, mDefX, noX, mRevA_b, revK_t, revK_l, oTold_b, oTold0_b, oBk, oCt, oPar3, mCut, mPart, perm_0, perm_01, perm_10, perm_012, perm_021, perm_102, perm_120, perm_201, perm_210, perm_0123, perm_0132, perm_0213, perm_0231, perm_0312, perm_0321, perm_1023, perm_1032, perm_1203, perm_1230, perm_1302, perm_1320, perm_2013, perm_2031, perm_2103, perm_2130, perm_2301, perm_2310, perm_3012, perm_3021, perm_3102, perm_3120, perm_3201, perm_3210, mListR1_b, gPut, gTp, gsCons, gsNil, mSeq, seq_l, seq_t, bind_assoc', bind_leaf, bind_fail, lineOk_1, lineOk_2, lineOk_3, lineOk_s, Nat.reduceLeDiff, mPeek_z, mPeek_s, mVar_z, mVar_s, put_z, put_s, opAdd_i, opSub_i, opNeg_i, cLt_i, cLe_i, cGt_i, cGe_i, cEq_i, cNe_i, fAbs_i, fInt_i, fLen_t, fLen_l, ix0, ix1, Bool.false_eq_true, Bool.not_true, Bool.not_false,
  List.length_cons, List.length_nil, List.map_cons, List.map_nil, List.cons_append, List.nil_append, List.replicate, Nat.reduceAdd, Nat.reduceSub, Nat.zero_add, if_true, if_false, ↓reduceIte])
theorem sz5 {n b : Nat} {W : List Rat} {Ls : List (List Rat)} (hW : LotB n 5 W) (hL : ∀ P ∈ Ls, LotB b 8 P) (h6 : Ls.length ≤ 6) : ∀ q ∈ mixedR W Ls b, Sz 85 q := fun q hq => by
  obtain ⟨i, hi, rfl⟩ := List.mem_map.mp hq
  have hi := List.mem_range.mp hi
  refine (sum_sz (n := 13) (by omega) _ (dot_sz (P := W) (Q := Ls.map fun P => P.getD i 0) (n1 := 5) (n2 := 8) hW.sz fun p hp => ?_)).mono ?_
  · obtain ⟨P, hP, rfl⟩ := List.mem_map.mp hp
    exact (hL P hP).sz _ (getD_mem (by rw [(hL P hP).len]; exact hi))
  · rw [List.length_map, List.length_zip, List.length_map]
    have : min W.length Ls.length ≤ 6 := by omega
    have := Nat.mul_le_mul_right (13 + 1) this
    omega
theorem mixed_nn {W : List Rat} {Ls : List (List Rat)} {n : Nat} (hW : ∀ w ∈ W, 0 ≤ w) (hL : ∀ P ∈ Ls, P.length = n ∧ ∀ p ∈ P, 0 ≤ p) : ∀ q ∈ mixedR W Ls n, 0 ≤ q := fun q hq => by
  obtain ⟨i, hi, rfl⟩ := List.mem_map.mp hq
  have hi := List.mem_range.mp hi
  refine sum_nn _ fun z hz => ?_
  obtain ⟨x, hx, rfl⟩ := List.mem_map.mp hz
  have h1 := hW _ (List.of_mem_zip hx).1
  obtain ⟨P, hP, e⟩ := List.mem_map.mp (List.of_mem_zip hx).2
  have h2 : 0 ≤ x.2 := by
    rw [← e]
    exact (hL P hP).2 _ (getD_mem (by rw [(hL P hP).1]; exact hi))
  exact Rat.mul_nonneg h1 h2
/-- a table's row, its column -/
theorem row_tot {p : Rat} {Q : List Rat} (hp : Sz 8 p) (hQ : ∀ q ∈ Q, Sz 8 q) (h1 : Q.sum = 1) (l8 : Q.length ≤ 8) : f_law_total [.lst (Q.map fun q => fr (p * q))] = .leaf (fr p) := by
  have t := law_total_l (n := 16) (Q.map fun q => p * q) (fun z hz => by
    obtain ⟨q, hq, rfl⟩ := List.mem_map.mp hz
    exact sz_mul hp (hQ q hq)) (by rw [List.length_map]; omega) (by omega)
  rw [sum_mulL, h1, List.map_map] at t
  have e : p * 1 = p := by grind
  rw [e] at t
  exact t
theorem col_tot {q : Rat} {P : List Rat} (hq : Sz 8 q) (hP : ∀ p ∈ P, Sz 8 p) (h1 : P.sum = 1) (l8 : P.length ≤ 8) : f_law_total [.lst (P.map fun p => fr (p * q))] = .leaf (fr q) := by
  have t := law_total_l (n := 16) (P.map fun p => p * q) (fun z hz => by
    obtain ⟨p, hp, rfl⟩ := List.mem_map.mp hz
    exact sz_mul (hP p hp) hq) (by rw [List.length_map]; omega) (by omega)
  rw [sum_mulR, h1, List.map_map] at t
  have e : 1 * q = q := by grind
  rw [e] at t
  exact t
def tabD (P Q : List Rat) : List D := P.map fun p => .lst (Q.map fun q => fr (p * q))
theorem tab_D {P Q : List Rat} (hP : ∀ p ∈ P, Sz 8 p) (hQ : ∀ q ∈ Q, Sz 8 q) (l8 : P.length ≤ 8) (m8 : Q.length ≤ 8) (n : Nat) : DB 16 (n + 4) 328 (.lst (tabD P Q)) := DB.lst (k := 40) (m := 8) (fun x hx => by
  obtain ⟨p, hp, rfl⟩ := List.mem_map.mp hx
  refine DB.lst (k := 4) (m := 8) (fun y hy => ?_) (by rw [List.length_map]; exact m8)
  obtain ⟨q, hq, rfl⟩ := List.mem_map.mp hy
  exact DB.fr (sz_mul (hP p hp) (hQ q hq))) (by unfold tabD; rw [List.length_map]; exact l8)
theorem right_S : AllS (fun d => d = .bl true) (f_law_right [.pot]) := by
  unfold f_law_right b_law_right
  simp only [mDef, En.start, oSeq, oIf, oRet, oSet, oOwn, putOwn_z, putOwn_s, oPar, oNx, oFail, oEx, _root_.R.m2, _root_.R.m1, _root_.R.mA, aCons, aNil, _root_.R.mB, _root_.R.mC, mCh, _root_.R.mT, mNot, mAnd, mOr, mAndV, mOrV, mNotV, mIf, mTup, mLst, mList, asB_b, allS_leaf, wipe_n, wipe_c, wset_z, wset_s, tYesM, oAsg, mLc_1, mLc_2, pairK_t, triK_t, mEnum, mZip, mRange1_b, mRange2_b, oApp, oStore, mOwn_z, mOwn_s, mDefN, oSeqN, mHeard_b, oFrz, frz1_z, frz1_n, frz1_s, oRetN, oSeqX, oRaiseIf, oLift, mDefX, noX, mRevA_b, revK_t, revK_l, oTold_b, oTold0_b, oBk, oCt, oPar3, mCut, mPart, perm_0, perm_01, perm_10, perm_012, perm_021, perm_102, perm_120, perm_201, perm_210, perm_0123, perm_0132, perm_0213, perm_0231, perm_0312, perm_0321, perm_1023, perm_1032, perm_1203, perm_1230, perm_1302, perm_1320, perm_2013, perm_2031, perm_2103, perm_2130, perm_2301, perm_2310, perm_3012, perm_3021, perm_3102, perm_3120, perm_3201, perm_3210, mListR1_b, gPut, gTp, gsCons, gsNil, mSeq, seq_l, seq_t, bind_assoc', bind_leaf, bind_fail, lineOk_1, lineOk_2, lineOk_3, lineOk_s, Nat.reduceLeDiff, mPeek_z, mPeek_s, mVar_z, mVar_s, put_z, put_s, opAdd_i, opSub_i, opNeg_i, cLt_i, cLe_i, cGt_i, cGe_i, cEq_i, cNe_i, fAbs_i, fInt_i, fLen_t, fLen_l, ix0, ix1, Bool.false_eq_true, Bool.not_true, Bool.not_false, List.length_cons, List.length_nil, List.map_cons, List.map_nil, List.cons_append, List.nil_append, List.replicate, Nat.reduceAdd, Nat.reduceSub, Nat.zero_add, if_true, if_false, ↓reduceIte]
  rw [allS_bind]
  refine allS_go (drS 8 (by omega) (by omega)) fun i i0 i1 => ?_
  obtain ⟨n, hn, n1, n8⟩ : ∃ n : Nat, 1 + i = (n : Int) ∧ 1 ≤ n ∧ n ≤ 8 := ⟨(1 + i).toNat, by omega, by omega, by omega⟩
  rw [opAdd_i, bind_leaf, hn]
  clear hn i0 i1 i
  rw [allS_bind]
  refine allS_go (drS 6 (by omega) (by omega)) fun i i0 i1 => ?_
  obtain ⟨m, hm, m1, m6⟩ : ∃ m : Nat, 1 + i = (m : Int) ∧ 1 ≤ m ∧ m ≤ 6 := ⟨(1 + i).toNat, by omega, by omega, by omega⟩
  rw [opAdd_i, bind_leaf, hm]
  clear hm i0 i1 i
  have g1 := rng1_n (n := m) (by omega)
  simp only [mDef, En.start, oSeq, oIf, oRet, oSet, oOwn, putOwn_z, putOwn_s, oPar, oNx, oFail, oEx, _root_.R.m2, _root_.R.m1, _root_.R.mA, aCons, aNil, _root_.R.mB, _root_.R.mC, mCh, _root_.R.mT, mNot, mAnd, mOr, mAndV, mOrV, mNotV, mIf, mTup, mLst, mList, asB_b, allS_leaf, wipe_n, wipe_c, wset_z, wset_s, tYesM, oAsg, mLc_1, mLc_2, pairK_t, triK_t, mEnum, mZip, mRange1_b, mRange2_b, oApp, oStore, mOwn_z, mOwn_s, mDefN, oSeqN, mHeard_b, oFrz, frz1_z, frz1_n, frz1_s, oRetN, oSeqX, oRaiseIf, oLift, mDefX, noX, mRevA_b, revK_t, revK_l, oTold_b, oTold0_b, oBk, oCt, oPar3, mCut, mPart, perm_0, perm_01, perm_10, perm_012, perm_021, perm_102, perm_120, perm_201, perm_210, perm_0123, perm_0132, perm_0213, perm_0231, perm_0312, perm_0321, perm_1023, perm_1032, perm_1203, perm_1230, perm_1302, perm_1320, perm_2013, perm_2031, perm_2103, perm_2130, perm_2301, perm_2310, perm_3012, perm_3021, perm_3102, perm_3120, perm_3201, perm_3210, mListR1_b, gPut, gTp, gsCons, gsNil, mSeq, seq_l, seq_t, bind_assoc', bind_leaf, bind_fail, lineOk_1, lineOk_2, lineOk_3, lineOk_s, Nat.reduceLeDiff, mPeek_z, mPeek_s, mVar_z, mVar_s, put_z, put_s, opAdd_i, opSub_i, opNeg_i, cLt_i, cLe_i, cGt_i, cGe_i, cEq_i, cNe_i, fAbs_i, fInt_i, fLen_t, fLen_l, ix0, ix1, Bool.false_eq_true, Bool.not_true, Bool.not_false, List.length_cons, List.length_nil, List.map_cons, List.map_nil, List.cons_append, List.nil_append, List.replicate, Nat.reduceAdd, Nat.reduceSub, Nat.zero_add, if_true, if_false, ↓reduceIte, g1]
  rw [allS_bind]
  refine allS_mono (lckS (β := Nat) (L := List.range m) (fun _ d => ∃ P, d = lotD P ∧ LotB n 8 P) (by rw [List.length_range]; omega) (fun i hi => ⟨rfl, by
    refine allS_fun (pick_S (P := fun d => ∃ w : Nat, d = .int (w : Int) ∧ 1 ≤ w ∧ w ≤ 20) (L := [1, 6, 20]) rfl (by decide) (by decide) (fun w hw => ⟨w, rfl, by
      simp only [List.mem_cons, List.not_mem_nil, or_false] at hw
      omega⟩)) fun d hd => ?_
    obtain ⟨w, rfl, w1, w2⟩ := hd
    exact lot_B n1 n8 w1 (by omega) (by
      have := Nat.mul_le_mul n8 w2
      omega)⟩)) fun ys hy => ?_
  obtain ⟨zs, rfl, ez, hzs⟩ := hy
  obtain ⟨Ls, eL, hLl0, hL⟩ := lots_of zs hzs
  rw [eL]
  have hLl : Ls.length = m := by rw [hLl0, ← List.length_map (f := (·.1)) (as := zs), ez, List.length_range]
  clear hLl0 eL ez hzs zs
  simp only [mDef, En.start, oSeq, oIf, oRet, oSet, oOwn, putOwn_z, putOwn_s, oPar, oNx, oFail, oEx, _root_.R.m2, _root_.R.m1, _root_.R.mA, aCons, aNil, _root_.R.mB, _root_.R.mC, mCh, _root_.R.mT, mNot, mAnd, mOr, mAndV, mOrV, mNotV, mIf, mTup, mLst, mList, asB_b, allS_leaf, wipe_n, wipe_c, wset_z, wset_s, tYesM, oAsg, mLc_1, mLc_2, pairK_t, triK_t, mEnum, mZip, mRange1_b, mRange2_b, oApp, oStore, mOwn_z, mOwn_s, mDefN, oSeqN, mHeard_b, oFrz, frz1_z, frz1_n, frz1_s, oRetN, oSeqX, oRaiseIf, oLift, mDefX, noX, mRevA_b, revK_t, revK_l, oTold_b, oTold0_b, oBk, oCt, oPar3, mCut, mPart, perm_0, perm_01, perm_10, perm_012, perm_021, perm_102, perm_120, perm_201, perm_210, perm_0123, perm_0132, perm_0213, perm_0231, perm_0312, perm_0321, perm_1023, perm_1032, perm_1203, perm_1230, perm_1302, perm_1320, perm_2013, perm_2031, perm_2103, perm_2130, perm_2301, perm_2310, perm_3012, perm_3021, perm_3102, perm_3120, perm_3201, perm_3210, mListR1_b, gPut, gTp, gsCons, gsNil, mSeq, seq_l, seq_t, bind_assoc', bind_leaf, bind_fail, lineOk_1, lineOk_2, lineOk_3, lineOk_s, Nat.reduceLeDiff, mPeek_z, mPeek_s, mVar_z, mVar_s, put_z, put_s, opAdd_i, opSub_i, opNeg_i, cLt_i, cLe_i, cGt_i, cGe_i, cEq_i, cNe_i, fAbs_i, fInt_i, fLen_t, fLen_l, ix0, ix1, Bool.false_eq_true, Bool.not_true, Bool.not_false, List.length_cons, List.length_nil, List.map_cons, List.map_nil, List.cons_append, List.nil_append, List.replicate, Nat.reduceAdd, Nat.reduceSub, Nat.zero_add, if_true, if_false, ↓reduceIte, cut3]
  rw [← List.map_take, allS_bind]
  refine allS_mono (lckS (β := List Rat) (L := Ls.take 3) (fun _ d => d = .bl true) (by rw [List.length_take]; omega) (fun P hP => ⟨rfl, by
    obtain ⟨S, hS, _⟩ := (hL P (List.mem_of_mem_take hP)).ex
    refine allS_fun (one_right hS) fun d hd => ?_
    subst hd
    simp only [mDef, En.start, oSeq, oIf, oRet, oSet, oOwn, putOwn_z, putOwn_s, oPar, oNx, oFail, oEx, _root_.R.m2, _root_.R.m1, _root_.R.mA, aCons, aNil, _root_.R.mB, _root_.R.mC, mCh, _root_.R.mT, mNot, mAnd, mOr, mAndV, mOrV, mNotV, mIf, mTup, mLst, mList, asB_b, allS_leaf, wipe_n, wipe_c, wset_z, wset_s, tYesM, oAsg, mLc_1, mLc_2, pairK_t, triK_t, mEnum, mZip, mRange1_b, mRange2_b, oApp, oStore, mOwn_z, mOwn_s, mDefN, oSeqN, mHeard_b, oFrz, frz1_z, frz1_n, frz1_s, oRetN, oSeqX, oRaiseIf, oLift, mDefX, noX, mRevA_b, revK_t, revK_l, oTold_b, oTold0_b, oBk, oCt, oPar3, mCut, mPart, perm_0, perm_01, perm_10, perm_012, perm_021, perm_102, perm_120, perm_201, perm_210, perm_0123, perm_0132, perm_0213, perm_0231, perm_0312, perm_0321, perm_1023, perm_1032, perm_1203, perm_1230, perm_1302, perm_1320, perm_2013, perm_2031, perm_2103, perm_2130, perm_2301, perm_2310, perm_3012, perm_3021, perm_3102, perm_3120, perm_3201, perm_3210, mListR1_b, gPut, gTp, gsCons, gsNil, mSeq, seq_l, seq_t, bind_assoc', bind_leaf, bind_fail, lineOk_1, lineOk_2, lineOk_3, lineOk_s, Nat.reduceLeDiff, mPeek_z, mPeek_s, mVar_z, mVar_s, put_z, put_s, opAdd_i, opSub_i, opNeg_i, cLt_i, cLe_i, cGt_i, cGe_i, cEq_i, cNe_i, fAbs_i, fInt_i, fLen_t, fLen_l, ix0, ix1, Bool.false_eq_true, Bool.not_true, Bool.not_false, List.length_cons, List.length_nil, List.map_cons, List.map_nil, List.cons_append, List.nil_append, List.replicate, Nat.reduceAdd, Nat.reduceSub, Nat.zero_add, if_true, if_false, ↓reduceIte]
    exact moved_right hS⟩)) fun ys hy => ?_
  obtain ⟨zs, rfl, ez, hzs⟩ := hy
  have ba := bls_all (zs.map (·.2)) fun y hy => by
    obtain ⟨z, hz, rfl⟩ := List.mem_map.mp hy
    exact hzs z hz
  simp only [mDef, En.start, oSeq, oIf, oRet, oSet, oOwn, putOwn_z, putOwn_s, oPar, oNx, oFail, oEx, _root_.R.m2, _root_.R.m1, _root_.R.mA, aCons, aNil, _root_.R.mB, _root_.R.mC, mCh, _root_.R.mT, mNot, mAnd, mOr, mAndV, mOrV, mNotV, mIf, mTup, mLst, mList, asB_b, allS_leaf, wipe_n, wipe_c, wset_z, wset_s, tYesM, oAsg, mLc_1, mLc_2, pairK_t, triK_t, mEnum, mZip, mRange1_b, mRange2_b, oApp, oStore, mOwn_z, mOwn_s, mDefN, oSeqN, mHeard_b, oFrz, frz1_z, frz1_n, frz1_s, oRetN, oSeqX, oRaiseIf, oLift, mDefX, noX, mRevA_b, revK_t, revK_l, oTold_b, oTold0_b, oBk, oCt, oPar3, mCut, mPart, perm_0, perm_01, perm_10, perm_012, perm_021, perm_102, perm_120, perm_201, perm_210, perm_0123, perm_0132, perm_0213, perm_0231, perm_0312, perm_0321, perm_1023, perm_1032, perm_1203, perm_1230, perm_1302, perm_1320, perm_2013, perm_2031, perm_2103, perm_2130, perm_2301, perm_2310, perm_3012, perm_3021, perm_3102, perm_3120, perm_3201, perm_3210, mListR1_b, gPut, gTp, gsCons, gsNil, mSeq, seq_l, seq_t, bind_assoc', bind_leaf, bind_fail, lineOk_1, lineOk_2, lineOk_3, lineOk_s, Nat.reduceLeDiff, mPeek_z, mPeek_s, mVar_z, mVar_s, put_z, put_s, opAdd_i, opSub_i, opNeg_i, cLt_i, cLe_i, cGt_i, cGe_i, cEq_i, cNe_i, fAbs_i, fInt_i, fLen_t, fLen_l, ix0, ix1, Bool.false_eq_true, Bool.not_true, Bool.not_false, List.length_cons, List.length_nil, List.map_cons, List.map_nil, List.cons_append, List.nil_append, List.replicate, Nat.reduceAdd, Nat.reduceSub, Nat.zero_add, if_true, if_false, ↓reduceIte, ba]
  clear ba ez hzs zs
  rw [allS_bind]
  refine allS_mono (lot_B (n := m) (w := 5) (b := 5) m1 (by omega) (by omega) (by omega) (by
    have := Nat.mul_le_mul_right 5 m6
    omega)) fun d hd => ?_
  obtain ⟨W, rfl, hW⟩ := hd
  have g2 := rng1_n (n := n) (by omega)
  have sL : Sq (.lst (Ls.map lotD)) (Ls.map lotD) := .inl rfl
  have sT : Sq (.tup (Ls.map lotD)) (Ls.map lotD) := .inr rfl
  have hL13 : ∀ P ∈ Ls, ∀ p ∈ P, Sz 13 p := fun P hP p hp => ((hL P hP).sz p hp).mono (by omega)
  have hW13 : ∀ w ∈ W, Sz 13 w := fun w hw => (hW.sz w hw).mono (by omega)
  have c1 : ∀ i, i < n → lck (fun _ => leaf true) (fun d => opIx d (.int (i : Int))) (Ls.map lotD) = .leaf (Ls.map fun P => fr (P.getD i 0)) := fun i hi => lck_map _ (by omega) fun P hP => ⟨rfl, lot_ixD (by rw [(hL P hP).len]; exact hi)⟩
  have c2 : ∀ i, i < n → f_law_mean [lotD W, .lst (Ls.map fun P => fr (P.getD i 0))] = .leaf (fr (dotR W (Ls.map fun P => P.getD i 0))) := fun i hi => lmean_fr (n1 := 13) (n2 := 13) rfl (by rw [List.map_map]; rfl) hW13 (fun q hq => by
    obtain ⟨P, hP, rfl⟩ := List.mem_map.mp hq
    exact hL13 P hP _ (getD_mem (by rw [(hL P hP).len]; exact hi))) hW.q.l8 (by omega)
  simp only [mDef, En.start, oSeq, oIf, oRet, oSet, oOwn, putOwn_z, putOwn_s, oPar, oNx, oFail, oEx, _root_.R.m2, _root_.R.m1, _root_.R.mA, aCons, aNil, _root_.R.mB, _root_.R.mC, mCh, _root_.R.mT, mNot, mAnd, mOr, mAndV, mOrV, mNotV, mIf, mTup, mLst, mList, asB_b, allS_leaf, wipe_n, wipe_c, wset_z, wset_s, tYesM, oAsg, mLc_1, mLc_2, pairK_t, triK_t, mEnum, mZip, mRange1_b, mRange2_b, oApp, oStore, mOwn_z, mOwn_s, mDefN, oSeqN, mHeard_b, oFrz, frz1_z, frz1_n, frz1_s, oRetN, oSeqX, oRaiseIf, oLift, mDefX, noX, mRevA_b, revK_t, revK_l, oTold_b, oTold0_b, oBk, oCt, oPar3, mCut, mPart, perm_0, perm_01, perm_10, perm_012, perm_021, perm_102, perm_120, perm_201, perm_210, perm_0123, perm_0132, perm_0213, perm_0231, perm_0312, perm_0321, perm_1023, perm_1032, perm_1203, perm_1230, perm_1302, perm_1320, perm_2013, perm_2031, perm_2103, perm_2130, perm_2301, perm_2310, perm_3012, perm_3021, perm_3102, perm_3120, perm_3201, perm_3210, mListR1_b, gPut, gTp, gsCons, gsNil, mSeq, seq_l, seq_t, bind_assoc', bind_leaf, bind_fail, lineOk_1, lineOk_2, lineOk_3, lineOk_s, Nat.reduceLeDiff, mPeek_z, mPeek_s, mVar_z, mVar_s, put_z, put_s, opAdd_i, opSub_i, opNeg_i, cLt_i, cLe_i, cGt_i, cGe_i, cEq_i, cNe_i, fAbs_i, fInt_i, fLen_t, fLen_l, ix0, ix1, Bool.false_eq_true, Bool.not_true, Bool.not_false, List.length_cons, List.length_nil, List.map_cons, List.map_nil, List.cons_append, List.nil_append, List.replicate, Nat.reduceAdd, Nat.reduceSub, Nat.zero_add, if_true, if_false, ↓reduceIte, g2]
  rw [lck_map (β := Nat) (fun i => fr (dotR W (Ls.map fun P => P.getD i 0))) (by rw [List.length_range]; omega) (fun i hi => ⟨rfl, by
    rw [c1 i (List.mem_range.mp hi), bind_leaf, c2 i (List.mem_range.mp hi)]⟩)]
  have eD : D.tup ((List.range n).map fun i => fr (dotR W (Ls.map fun P => P.getD i 0))) = lotD (mixedR W Ls n) := by
    unfold lotD mixedR
    rw [List.map_map]
    rfl
  have ft : fTuple [.lst (Ls.map lotD)] = .leaf (.tup (Ls.map lotD)) := rfl
  have hne : Ls ≠ [] := fun e => by rw [e] at hLl; simp at hLl; omega
  have k1 := mixed_fr hW.q hW13 sL (fun P hP => ⟨(hL P hP).len, (hL P hP).q, hL13 P hP⟩) (by rw [hW.len, hLl]) hne (by omega) n8
  have k2 := mixed_fr hW.q hW13 sT (fun P hP => ⟨(hL P hP).len, (hL P hP).q, hL13 P hP⟩) (by rw [hW.len, hLl]) hne (by omega) n8
  have z5 := sz5 hW hL (by omega)
  have ml : (mixedR W Ls n).length = n := by unfold mixedR; simp
  have il := islot_sz (L := mixedR W Ls n) (n := 85) (by omega) z5 (by omega) (by omega) (mixed_nn (fun w hw => hW.q.nn w hw) fun P hP => ⟨(hL P hP).len, fun p hp => (hL P hP).q.nn p hp⟩) (mixed_sum hW.q.one (by rw [hW.len, hLl]) fun P hP => ⟨(hL P hP).len, (hL P hP).q.one⟩)
  obtain ⟨s1, r1, r2, r3⟩ := repr_D (DB.lst (b := 85) (n := 11) (k := 40) (m := 2) (xs := [lotD (mixedR W Ls n), lotD (mixedR W Ls n)]) (fun x hx => by
    simp only [List.mem_cons, List.not_mem_nil, or_false, or_self] at hx
    exact hx ▸ DB.lot (n := 8) z5 (by omega)) (by simp)) (by omega) (by omega) (by omega)
  simp only [mDef, En.start, oSeq, oIf, oRet, oSet, oOwn, putOwn_z, putOwn_s, oPar, oNx, oFail, oEx, _root_.R.m2, _root_.R.m1, _root_.R.mA, aCons, aNil, _root_.R.mB, _root_.R.mC, mCh, _root_.R.mT, mNot, mAnd, mOr, mAndV, mOrV, mNotV, mIf, mTup, mLst, mList, asB_b, allS_leaf, wipe_n, wipe_c, wset_z, wset_s, tYesM, oAsg, mLc_1, mLc_2, pairK_t, triK_t, mEnum, mZip, mRange1_b, mRange2_b, oApp, oStore, mOwn_z, mOwn_s, mDefN, oSeqN, mHeard_b, oFrz, frz1_z, frz1_n, frz1_s, oRetN, oSeqX, oRaiseIf, oLift, mDefX, noX, mRevA_b, revK_t, revK_l, oTold_b, oTold0_b, oBk, oCt, oPar3, mCut, mPart, perm_0, perm_01, perm_10, perm_012, perm_021, perm_102, perm_120, perm_201, perm_210, perm_0123, perm_0132, perm_0213, perm_0231, perm_0312, perm_0321, perm_1023, perm_1032, perm_1203, perm_1230, perm_1302, perm_1320, perm_2013, perm_2031, perm_2103, perm_2130, perm_2301, perm_2310, perm_3012, perm_3021, perm_3102, perm_3120, perm_3201, perm_3210, mListR1_b, gPut, gTp, gsCons, gsNil, mSeq, seq_l, seq_t, bind_assoc', bind_leaf, bind_fail, lineOk_1, lineOk_2, lineOk_3, lineOk_s, Nat.reduceLeDiff, mPeek_z, mPeek_s, mVar_z, mVar_s, put_z, put_s, opAdd_i, opSub_i, opNeg_i, cLt_i, cLe_i, cGt_i, cGe_i, cEq_i, cNe_i, fAbs_i, fInt_i, fLen_t, fLen_l, ix0, ix1, Bool.false_eq_true, Bool.not_true, Bool.not_false, List.length_cons, List.length_nil, List.map_cons, List.map_nil, List.cons_append, List.nil_append, List.replicate, Nat.reduceAdd, Nat.reduceSub, Nat.zero_add, if_true, if_false, ↓reduceIte, fTuple_l, eD, ft, k1, k2, r1, r2, il]
  clear r1 r2 r3 il z5 ml k1 k2 c1 c2 eD hL13 hW13
  obtain ⟨P, Lr, rfl⟩ : ∃ P Lr, Ls = P :: Lr := by
    cases Ls with
    | nil => exact absurd rfl hne
    | cons P Lr => exact ⟨P, Lr, rfl⟩
  have hP := hL P List.mem_cons_self
  have i0 : opIx (.lst (lotD P :: Lr.map lotD)) (.int 0) = .leaf (lotD P) := (opIx_lt (ds := lotD P :: Lr.map lotD) (k := 0) (by simp)).1
  simp only [mDef, En.start, oSeq, oIf, oRet, oSet, oOwn, putOwn_z, putOwn_s, oPar, oNx, oFail, oEx, _root_.R.m2, _root_.R.m1, _root_.R.mA, aCons, aNil, _root_.R.mB, _root_.R.mC, mCh, _root_.R.mT, mNot, mAnd, mOr, mAndV, mOrV, mNotV, mIf, mTup, mLst, mList, asB_b, allS_leaf, wipe_n, wipe_c, wset_z, wset_s, tYesM, oAsg, mLc_1, mLc_2, pairK_t, triK_t, mEnum, mZip, mRange1_b, mRange2_b, oApp, oStore, mOwn_z, mOwn_s, mDefN, oSeqN, mHeard_b, oFrz, frz1_z, frz1_n, frz1_s, oRetN, oSeqX, oRaiseIf, oLift, mDefX, noX, mRevA_b, revK_t, revK_l, oTold_b, oTold0_b, oBk, oCt, oPar3, mCut, mPart, perm_0, perm_01, perm_10, perm_012, perm_021, perm_102, perm_120, perm_201, perm_210, perm_0123, perm_0132, perm_0213, perm_0231, perm_0312, perm_0321, perm_1023, perm_1032, perm_1203, perm_1230, perm_1302, perm_1320, perm_2013, perm_2031, perm_2103, perm_2130, perm_2301, perm_2310, perm_3012, perm_3021, perm_3102, perm_3120, perm_3201, perm_3210, mListR1_b, gPut, gTp, gsCons, gsNil, mSeq, seq_l, seq_t, bind_assoc', bind_leaf, bind_fail, lineOk_1, lineOk_2, lineOk_3, lineOk_s, Nat.reduceLeDiff, mPeek_z, mPeek_s, mVar_z, mVar_s, put_z, put_s, opAdd_i, opSub_i, opNeg_i, cLt_i, cLe_i, cGt_i, cGe_i, cEq_i, cNe_i, fAbs_i, fInt_i, fLen_t, fLen_l, ix0, ix1, Bool.false_eq_true, Bool.not_true, Bool.not_false, List.length_cons, List.length_nil, List.map_cons, List.map_nil, List.cons_append, List.nil_append, List.replicate, Nat.reduceAdd, Nat.reduceSub, Nat.zero_add, if_true, if_false, ↓reduceIte, i0]
  rw [allS_bind]
  refine allS_go (drS 8 (by omega) (by omega)) fun i i0' i1 => ?_
  obtain ⟨c, hc, c1, c8⟩ : ∃ c : Nat, 1 + i = (c : Int) ∧ 1 ≤ c ∧ c ≤ 8 := ⟨(1 + i).toNat, by omega, by omega, by omega⟩
  rw [opAdd_i, bind_leaf, hc]
  clear hc i0' i1 i
  rw [allS_bind]
  refine allS_mono (lot_B (n := c) (w := 6) (b := 8) c1 c8 (by omega) (by omega) (by
    have := Nat.mul_le_mul_right 6 c8
    omega)) fun d hd => ?_
  obtain ⟨Q, rfl, hQ⟩ := hd
  have lP : P.length ≤ 8 := hP.q.l8
  have lQ : Q.length ≤ 8 := hQ.q.l8
  have sP : seqOf (lotD P) = .leaf (P.map fr) := rfl
  have sQ : seqOf (lotD Q) = .leaf (Q.map fr) := rfl
  have t1 : ∀ p ∈ P, lck (fun _ => leaf true) (fun e => f_law_times [fr p, e]) (Q.map fr) = .leaf (Q.map fun q => fr (p * q)) := fun p hp => lck_map _ (by omega) fun q hq => ⟨rfl, law_times_fr ((hP.sz p hp).mono (by omega)) ((hQ.sz q hq).mono (by omega))⟩
  simp only [mDef, En.start, oSeq, oIf, oRet, oSet, oOwn, putOwn_z, putOwn_s, oPar, oNx, oFail, oEx, _root_.R.m2, _root_.R.m1, _root_.R.mA, aCons, aNil, _root_.R.mB, _root_.R.mC, mCh, _root_.R.mT, mNot, mAnd, mOr, mAndV, mOrV, mNotV, mIf, mTup, mLst, mList, asB_b, allS_leaf, wipe_n, wipe_c, wset_z, wset_s, tYesM, oAsg, mLc_1, mLc_2, pairK_t, triK_t, mEnum, mZip, mRange1_b, mRange2_b, oApp, oStore, mOwn_z, mOwn_s, mDefN, oSeqN, mHeard_b, oFrz, frz1_z, frz1_n, frz1_s, oRetN, oSeqX, oRaiseIf, oLift, mDefX, noX, mRevA_b, revK_t, revK_l, oTold_b, oTold0_b, oBk, oCt, oPar3, mCut, mPart, perm_0, perm_01, perm_10, perm_012, perm_021, perm_102, perm_120, perm_201, perm_210, perm_0123, perm_0132, perm_0213, perm_0231, perm_0312, perm_0321, perm_1023, perm_1032, perm_1203, perm_1230, perm_1302, perm_1320, perm_2013, perm_2031, perm_2103, perm_2130, perm_2301, perm_2310, perm_3012, perm_3021, perm_3102, perm_3120, perm_3201, perm_3210, mListR1_b, gPut, gTp, gsCons, gsNil, mSeq, seq_l, seq_t, bind_assoc', bind_leaf, bind_fail, lineOk_1, lineOk_2, lineOk_3, lineOk_s, Nat.reduceLeDiff, mPeek_z, mPeek_s, mVar_z, mVar_s, put_z, put_s, opAdd_i, opSub_i, opNeg_i, cLt_i, cLe_i, cGt_i, cGe_i, cEq_i, cNe_i, fAbs_i, fInt_i, fLen_t, fLen_l, ix0, ix1, Bool.false_eq_true, Bool.not_true, Bool.not_false, List.length_cons, List.length_nil, List.map_cons, List.map_nil, List.cons_append, List.nil_append, List.replicate, Nat.reduceAdd, Nat.reduceSub, Nat.zero_add, if_true, if_false, ↓reduceIte, sP, sQ]
  rw [lck_map (β := Rat) (fun p => .lst (Q.map fun q => fr (p * q))) (by omega) (fun p hp => ⟨rfl, by rw [t1 p hp]; rfl⟩), show (P.map fun p => D.lst (Q.map fun q => fr (p * q))) = tabD P Q from rfl]
  have bs := beside_fr hP.q hQ.q
  rw [show (P.map fun p => D.lst (Q.map fun q => fr (p * q))) = tabD P Q from rfl] at bs
  have td := fun n => tab_D hP.sz hQ.sz lP lQ n
  obtain ⟨s2, r4, r5, r6⟩ := repr_D (DB.lst (b := 16) (n := 11) (k := 328) (m := 2) (xs := [.lst (tabD P Q), .lst (tabD P Q)]) (fun x hx => by
    simp only [List.mem_cons, List.not_mem_nil, or_false, or_self] at hx
    exact hx ▸ td 7) (by simp)) (by omega) (by omega) (by omega)
  obtain ⟨s3, r7, r8, r9⟩ := repr_D (td 8) (by omega) (by omega) (by omega)
  simp only [mDef, En.start, oSeq, oIf, oRet, oSet, oOwn, putOwn_z, putOwn_s, oPar, oNx, oFail, oEx, _root_.R.m2, _root_.R.m1, _root_.R.mA, aCons, aNil, _root_.R.mB, _root_.R.mC, mCh, _root_.R.mT, mNot, mAnd, mOr, mAndV, mOrV, mNotV, mIf, mTup, mLst, mList, asB_b, allS_leaf, wipe_n, wipe_c, wset_z, wset_s, tYesM, oAsg, mLc_1, mLc_2, pairK_t, triK_t, mEnum, mZip, mRange1_b, mRange2_b, oApp, oStore, mOwn_z, mOwn_s, mDefN, oSeqN, mHeard_b, oFrz, frz1_z, frz1_n, frz1_s, oRetN, oSeqX, oRaiseIf, oLift, mDefX, noX, mRevA_b, revK_t, revK_l, oTold_b, oTold0_b, oBk, oCt, oPar3, mCut, mPart, perm_0, perm_01, perm_10, perm_012, perm_021, perm_102, perm_120, perm_201, perm_210, perm_0123, perm_0132, perm_0213, perm_0231, perm_0312, perm_0321, perm_1023, perm_1032, perm_1203, perm_1230, perm_1302, perm_1320, perm_2013, perm_2031, perm_2103, perm_2130, perm_2301, perm_2310, perm_3012, perm_3021, perm_3102, perm_3120, perm_3201, perm_3210, mListR1_b, gPut, gTp, gsCons, gsNil, mSeq, seq_l, seq_t, bind_assoc', bind_leaf, bind_fail, lineOk_1, lineOk_2, lineOk_3, lineOk_s, Nat.reduceLeDiff, mPeek_z, mPeek_s, mVar_z, mVar_s, put_z, put_s, opAdd_i, opSub_i, opNeg_i, cLt_i, cLe_i, cGt_i, cGe_i, cEq_i, cNe_i, fAbs_i, fInt_i, fLen_t, fLen_l, ix0, ix1, Bool.false_eq_true, Bool.not_true, Bool.not_false, List.length_cons, List.length_nil, List.map_cons, List.map_nil, List.cons_append, List.nil_append, List.replicate, Nat.reduceAdd, Nat.reduceSub, Nat.zero_add, if_true, if_false, ↓reduceIte, bs]
  rw [toldK0_of (by
    unfold tabD
    cases P with
    | nil => exact absurd hP.q.l1 (by simp)
    | cons p P => exact ⟨_, _, rfl, by rw [List.length_map]; omega⟩) (by simp)]
  simp only [mDef, En.start, oSeq, oIf, oRet, oSet, oOwn, putOwn_z, putOwn_s, oPar, oNx, oFail, oEx, _root_.R.m2, _root_.R.m1, _root_.R.mA, aCons, aNil, _root_.R.mB, _root_.R.mC, mCh, _root_.R.mT, mNot, mAnd, mOr, mAndV, mOrV, mNotV, mIf, mTup, mLst, mList, asB_b, allS_leaf, wipe_n, wipe_c, wset_z, wset_s, tYesM, oAsg, mLc_1, mLc_2, pairK_t, triK_t, mEnum, mZip, mRange1_b, mRange2_b, oApp, oStore, mOwn_z, mOwn_s, mDefN, oSeqN, mHeard_b, oFrz, frz1_z, frz1_n, frz1_s, oRetN, oSeqX, oRaiseIf, oLift, mDefX, noX, mRevA_b, revK_t, revK_l, oTold_b, oTold0_b, oBk, oCt, oPar3, mCut, mPart, perm_0, perm_01, perm_10, perm_012, perm_021, perm_102, perm_120, perm_201, perm_210, perm_0123, perm_0132, perm_0213, perm_0231, perm_0312, perm_0321, perm_1023, perm_1032, perm_1203, perm_1230, perm_1302, perm_1320, perm_2013, perm_2031, perm_2103, perm_2130, perm_2301, perm_2310, perm_3012, perm_3021, perm_3102, perm_3120, perm_3201, perm_3210, mListR1_b, gPut, gTp, gsCons, gsNil, mSeq, seq_l, seq_t, bind_assoc', bind_leaf, bind_fail, lineOk_1, lineOk_2, lineOk_3, lineOk_s, Nat.reduceLeDiff, mPeek_z, mPeek_s, mVar_z, mVar_s, put_z, put_s, opAdd_i, opSub_i, opNeg_i, cLt_i, cLe_i, cGt_i, cGe_i, cEq_i, cNe_i, fAbs_i, fInt_i, fLen_t, fLen_l, ix0, ix1, Bool.false_eq_true, Bool.not_true, Bool.not_false, List.length_cons, List.length_nil, List.map_cons, List.map_nil, List.cons_append, List.nil_append, List.replicate, Nat.reduceAdd, Nat.reduceSub, Nat.zero_add, if_true, if_false, ↓reduceIte, bs, r4, r5, r7, r8]
  rw [show tabD P Q = P.map (fun p => D.lst (Q.map fun q => fr (p * q))) from rfl, lck_map (β := Rat) fr (by omega) (fun p hp => ⟨rfl, row_tot (hP.sz p hp) hQ.sz hQ.q.one lQ⟩)]
  have lf : fList (lotD P) = .leaf (P.map fr) := rfl
  have lf2 : fList (lotD Q) = .leaf (Q.map fr) := rfl
  have np := (ne_self (show fitD 12 (.lst (P.map fr)) = true from fit_frs P 9)).1
  have nq := (ne_self (show fitD 12 (.lst (Q.map fr)) = true from fit_frs Q 9)).2
  have lq := len_lot Q
  have g3 := rng1_n (n := Q.length) (by omega)
  have c3 : ∀ j, j < Q.length → lck (fun _ => leaf true) (fun d => opIx d (.int (j : Int))) (P.map fun p => D.lst (Q.map fun q => fr (p * q))) = .leaf (P.map fun p => fr (p * Q.getD j 0)) := fun j hj => lck_map (β := Rat) _ (by omega) fun p hp => ⟨rfl, by
    rw [(opIx_lt (ds := Q.map fun q => fr (p * q)) (k := j) (by rw [List.length_map]; exact hj)).1]
    simp [hj]⟩
  have c4 : ∀ j, j < Q.length → f_law_total [.lst (P.map fun p => fr (p * Q.getD j 0))] = .leaf (fr (Q.getD j 0)) := fun j hj => col_tot (hQ.sz _ (getD_mem hj)) hP.sz hP.q.one lP
  simp only [mDef, En.start, oSeq, oIf, oRet, oSet, oOwn, putOwn_z, putOwn_s, oPar, oNx, oFail, oEx, _root_.R.m2, _root_.R.m1, _root_.R.mA, aCons, aNil, _root_.R.mB, _root_.R.mC, mCh, _root_.R.mT, mNot, mAnd, mOr, mAndV, mOrV, mNotV, mIf, mTup, mLst, mList, asB_b, allS_leaf, wipe_n, wipe_c, wset_z, wset_s, tYesM, oAsg, mLc_1, mLc_2, pairK_t, triK_t, mEnum, mZip, mRange1_b, mRange2_b, oApp, oStore, mOwn_z, mOwn_s, mDefN, oSeqN, mHeard_b, oFrz, frz1_z, frz1_n, frz1_s, oRetN, oSeqX, oRaiseIf, oLift, mDefX, noX, mRevA_b, revK_t, revK_l, oTold_b, oTold0_b, oBk, oCt, oPar3, mCut, mPart, perm_0, perm_01, perm_10, perm_012, perm_021, perm_102, perm_120, perm_201, perm_210, perm_0123, perm_0132, perm_0213, perm_0231, perm_0312, perm_0321, perm_1023, perm_1032, perm_1203, perm_1230, perm_1302, perm_1320, perm_2013, perm_2031, perm_2103, perm_2130, perm_2301, perm_2310, perm_3012, perm_3021, perm_3102, perm_3120, perm_3201, perm_3210, mListR1_b, gPut, gTp, gsCons, gsNil, mSeq, seq_l, seq_t, bind_assoc', bind_leaf, bind_fail, lineOk_1, lineOk_2, lineOk_3, lineOk_s, Nat.reduceLeDiff, mPeek_z, mPeek_s, mVar_z, mVar_s, put_z, put_s, opAdd_i, opSub_i, opNeg_i, cLt_i, cLe_i, cGt_i, cGe_i, cEq_i, cNe_i, fAbs_i, fInt_i, fLen_t, fLen_l, ix0, ix1, Bool.false_eq_true, Bool.not_true, Bool.not_false, List.length_cons, List.length_nil, List.map_cons, List.map_nil, List.cons_append, List.nil_append, List.replicate, Nat.reduceAdd, Nat.reduceSub, Nat.zero_add, if_true, if_false, ↓reduceIte, mListOf, lf, np, lq, g3]
  rw [lck_map (β := Nat) (fun j => fr (Q.getD j 0)) (by rw [List.length_range]; omega) (fun j hj => ⟨rfl, by
    rw [c3 j (List.mem_range.mp hj), bind_leaf, c4 j (List.mem_range.mp hj)]⟩)]
  have eq : (List.range Q.length).map (fun j => fr (Q.getD j 0)) = Q.map fr := by
    conv => rhs; rw [← range_getD Q, List.map_map]
    rfl
  simp only [mDef, En.start, oSeq, oIf, oRet, oSet, oOwn, putOwn_z, putOwn_s, oPar, oNx, oFail, oEx, _root_.R.m2, _root_.R.m1, _root_.R.mA, aCons, aNil, _root_.R.mB, _root_.R.mC, mCh, _root_.R.mT, mNot, mAnd, mOr, mAndV, mOrV, mNotV, mIf, mTup, mLst, mList, asB_b, allS_leaf, wipe_n, wipe_c, wset_z, wset_s, tYesM, oAsg, mLc_1, mLc_2, pairK_t, triK_t, mEnum, mZip, mRange1_b, mRange2_b, oApp, oStore, mOwn_z, mOwn_s, mDefN, oSeqN, mHeard_b, oFrz, frz1_z, frz1_n, frz1_s, oRetN, oSeqX, oRaiseIf, oLift, mDefX, noX, mRevA_b, revK_t, revK_l, oTold_b, oTold0_b, oBk, oCt, oPar3, mCut, mPart, perm_0, perm_01, perm_10, perm_012, perm_021, perm_102, perm_120, perm_201, perm_210, perm_0123, perm_0132, perm_0213, perm_0231, perm_0312, perm_0321, perm_1023, perm_1032, perm_1203, perm_1230, perm_1302, perm_1320, perm_2013, perm_2031, perm_2103, perm_2130, perm_2301, perm_2310, perm_3012, perm_3021, perm_3102, perm_3120, perm_3201, perm_3210, mListR1_b, gPut, gTp, gsCons, gsNil, mSeq, seq_l, seq_t, bind_assoc', bind_leaf, bind_fail, lineOk_1, lineOk_2, lineOk_3, lineOk_s, Nat.reduceLeDiff, mPeek_z, mPeek_s, mVar_z, mVar_s, put_z, put_s, opAdd_i, opSub_i, opNeg_i, cLt_i, cLe_i, cGt_i, cGe_i, cEq_i, cNe_i, fAbs_i, fInt_i, fLen_t, fLen_l, ix0, ix1, Bool.false_eq_true, Bool.not_true, Bool.not_false, List.length_cons, List.length_nil, List.map_cons, List.map_nil, List.cons_append, List.nil_append, List.replicate, Nat.reduceAdd, Nat.reduceSub, Nat.zero_add, if_true, if_false, ↓reduceIte, eq, lf2, nq]
/-! ### the pot, the law -/
theorem law_pot_eq (ns : List Int) (k : Nat) (k1 : k < 4) : f_law_pot [.scr ns, .int (k : Int)] = .leaf .pot := by
  have o1 := opMul_i (i := 1171) (j := (k : Int)) (small_bb (by omega)) (small_bb (by omega))
  have len : fLen [.scr ns] = .leaf (.int ns.length) := rfl
  have pw : opPow (.int 10) (.int 18) = .leaf (.int (10 ^ 18)) := pow_i (by decide)
  have o3 := opMul_i (i := 9421) (j := (k : Int)) (small_bb (by omega)) (small_bb (by omega))
  have md := fun c : Int => opMod_i (i := c) (j := 2147483549) (by omega)
  have md2 := fun c : Int => opMod_i (i := c) (j := 2147483563) (by omega)
  have o2 := fun c : Int => opMul_i (i := c % 2147483549) (j := 40014) (small_bb (by omega)) (small_bb (by omega))
  have fin : ∀ c : Int, (decide (0 ≤ (if c - 10 ^ 18 > 0 then c - 10 ^ 18 else 0)) && decide (0 ≤ (c % 2147483549 * 40014 + 9421 * (k : Int) + 61) % 2147483563 + 1) && decide ((c % 2147483549 * 40014 + 9421 * (k : Int) + 61) % 2147483563 + 1 < 4294967296)) = true := fun c => pot_if (by split <;> omega) (by omega) (by omega)
  unfold f_law_pot b_law_pot
  simp only [mDef, En.start, oSeq, oIf, oRet, oSet, oOwn, putOwn_z, putOwn_s, oPar, oNx, oFail, oEx, _root_.R.m2, _root_.R.m1, _root_.R.mA, aCons, aNil, _root_.R.mB, _root_.R.mC, mCh, _root_.R.mT, mNot, mAnd, mOr, mAndV, mOrV, mNotV, mIf, mTup, mLst, mList, asB_b, allS_leaf, wipe_n, wipe_c, wset_z, wset_s, tYesM, oAsg, mLc_1, mLc_2, pairK_t, triK_t, mEnum, mZip, mRange1_b, mRange2_b, oApp, oStore, mOwn_z, mOwn_s, mDefN, oSeqN, mHeard_b, oFrz, frz1_z, frz1_n, frz1_s, oRetN, oSeqX, oRaiseIf, oLift, mDefX, noX, mRevA_b, revK_t, revK_l, oTold_b, oTold0_b, oBk, oCt, oPar3, mCut, mPart, perm_0, perm_01, perm_10, perm_012, perm_021, perm_102, perm_120, perm_201, perm_210, perm_0123, perm_0132, perm_0213, perm_0231, perm_0312, perm_0321, perm_1023, perm_1032, perm_1203, perm_1230, perm_1302, perm_1320, perm_2013, perm_2031, perm_2103, perm_2130, perm_2301, perm_2310, perm_3012, perm_3021, perm_3102, perm_3120, perm_3201, perm_3210, mListR1_b, gPut, gTp, gsCons, gsNil, mSeq, seq_l, seq_t, bind_assoc', bind_leaf, bind_fail, lineOk_1, lineOk_2, lineOk_3, lineOk_s, Nat.reduceLeDiff, mPeek_z, mPeek_s, mVar_z, mVar_s, put_z, put_s, opAdd_i, opSub_i, opNeg_i, cLt_i, cLe_i, cGt_i, cGe_i, cEq_i, cNe_i, fAbs_i, fInt_i, fLen_t, fLen_l, ix0, ix1, Bool.false_eq_true, Bool.not_true, Bool.not_false, List.length_cons, List.length_nil, List.map_cons, List.map_nil, List.cons_append, List.nil_append, List.replicate, Nat.reduceAdd, Nat.reduceSub, Nat.zero_add, if_true, if_false, ↓reduceIte, o1, len]
  by_cases h : k < ns.length
  · obtain ⟨a, e⟩ := scr_at ns k h
    simp only [mDef, En.start, oSeq, oIf, oRet, oSet, oOwn, putOwn_z, putOwn_s, oPar, oNx, oFail, oEx, _root_.R.m2, _root_.R.m1, _root_.R.mA, aCons, aNil, _root_.R.mB, _root_.R.mC, mCh, _root_.R.mT, mNot, mAnd, mOr, mAndV, mOrV, mNotV, mIf, mTup, mLst, mList, asB_b, allS_leaf, wipe_n, wipe_c, wset_z, wset_s, tYesM, oAsg, mLc_1, mLc_2, pairK_t, triK_t, mEnum, mZip, mRange1_b, mRange2_b, oApp, oStore, mOwn_z, mOwn_s, mDefN, oSeqN, mHeard_b, oFrz, frz1_z, frz1_n, frz1_s, oRetN, oSeqX, oRaiseIf, oLift, mDefX, noX, mRevA_b, revK_t, revK_l, oTold_b, oTold0_b, oBk, oCt, oPar3, mCut, mPart, perm_0, perm_01, perm_10, perm_012, perm_021, perm_102, perm_120, perm_201, perm_210, perm_0123, perm_0132, perm_0213, perm_0231, perm_0312, perm_0321, perm_1023, perm_1032, perm_1203, perm_1230, perm_1302, perm_1320, perm_2013, perm_2031, perm_2103, perm_2130, perm_2301, perm_2310, perm_3012, perm_3021, perm_3102, perm_3120, perm_3201, perm_3210, mListR1_b, gPut, gTp, gsCons, gsNil, mSeq, seq_l, seq_t, bind_assoc', bind_leaf, bind_fail, lineOk_1, lineOk_2, lineOk_3, lineOk_s, Nat.reduceLeDiff, mPeek_z, mPeek_s, mVar_z, mVar_s, put_z, put_s, opAdd_i, opSub_i, opNeg_i, cLt_i, cLe_i, cGt_i, cGe_i, cEq_i, cNe_i, fAbs_i, fInt_i, fLen_t, fLen_l, ix0, ix1, Bool.false_eq_true, Bool.not_true, Bool.not_false, List.length_cons, List.length_nil, List.map_cons, List.map_nil, List.cons_append, List.nil_append, List.replicate, Nat.reduceAdd, Nat.reduceSub, Nat.zero_add, if_true, if_false, ↓reduceIte, decide_eq_true (show (k : Int) < (ns.length : Int) by omega), e, oPot_b, pw, max2_i, md, md2, o2, o3]
    rw [potK_i (fin _), bind_leaf]
  · simp only [mDef, En.start, oSeq, oIf, oRet, oSet, oOwn, putOwn_z, putOwn_s, oPar, oNx, oFail, oEx, _root_.R.m2, _root_.R.m1, _root_.R.mA, aCons, aNil, _root_.R.mB, _root_.R.mC, mCh, _root_.R.mT, mNot, mAnd, mOr, mAndV, mOrV, mNotV, mIf, mTup, mLst, mList, asB_b, allS_leaf, wipe_n, wipe_c, wset_z, wset_s, tYesM, oAsg, mLc_1, mLc_2, pairK_t, triK_t, mEnum, mZip, mRange1_b, mRange2_b, oApp, oStore, mOwn_z, mOwn_s, mDefN, oSeqN, mHeard_b, oFrz, frz1_z, frz1_n, frz1_s, oRetN, oSeqX, oRaiseIf, oLift, mDefX, noX, mRevA_b, revK_t, revK_l, oTold_b, oTold0_b, oBk, oCt, oPar3, mCut, mPart, perm_0, perm_01, perm_10, perm_012, perm_021, perm_102, perm_120, perm_201, perm_210, perm_0123, perm_0132, perm_0213, perm_0231, perm_0312, perm_0321, perm_1023, perm_1032, perm_1203, perm_1230, perm_1302, perm_1320, perm_2013, perm_2031, perm_2103, perm_2130, perm_2301, perm_2310, perm_3012, perm_3021, perm_3102, perm_3120, perm_3201, perm_3210, mListR1_b, gPut, gTp, gsCons, gsNil, mSeq, seq_l, seq_t, bind_assoc', bind_leaf, bind_fail, lineOk_1, lineOk_2, lineOk_3, lineOk_s, Nat.reduceLeDiff, mPeek_z, mPeek_s, mVar_z, mVar_s, put_z, put_s, opAdd_i, opSub_i, opNeg_i, cLt_i, cLe_i, cGt_i, cGe_i, cEq_i, cNe_i, fAbs_i, fInt_i, fLen_t, fLen_l, ix0, ix1, Bool.false_eq_true, Bool.not_true, Bool.not_false, List.length_cons, List.length_nil, List.map_cons, List.map_nil, List.cons_append, List.nil_append, List.replicate, Nat.reduceAdd, Nat.reduceSub, Nat.zero_add, if_true, if_false, ↓reduceIte, decide_eq_false (show ¬ (k : Int) < (ns.length : Int) by omega), oPot_b, pw, max2_i, md, md2, o2, o3]
    rw [potK_i (fin _), bind_leaf]
theorem law_S (ns : List Int) : AllS (fun r => r = .bl true) (f_law [.scr ns]) := by
  have len : fLen [.scr ns] = .leaf (.int ns.length) := rfl
  have k2 := min2_i 2 ns.length
  have k3 := max2_i 1 (if (ns.length : Int) < 2 then (ns.length : Int) else 2)
  obtain ⟨N, hN, N1, N2⟩ : ∃ N : Nat, (if (if (ns.length : Int) < 2 then (ns.length : Int) else 2) > 1 then (if (ns.length : Int) < 2 then (ns.length : Int) else 2) else 1) = (N : Int) ∧ 1 ≤ N ∧ N ≤ 2 := by
    by_cases h : (ns.length : Int) < 2
    · rw [if_pos h]
      exact ⟨1, by split <;> omega, by omega, by omega⟩
    · rw [if_neg h]
      exact ⟨2, by omega, by omega, by omega⟩
  rw [hN] at k3
  have g1 := rng1_n (n := N) (by omega)
  unfold f_law b_law
  simp only [mDef, En.start, oSeq, oIf, oRet, oSet, oOwn, putOwn_z, putOwn_s, oPar, oNx, oFail, oEx, _root_.R.m2, _root_.R.m1, _root_.R.mA, aCons, aNil, _root_.R.mB, _root_.R.mC, mCh, _root_.R.mT, mNot, mAnd, mOr, mAndV, mOrV, mNotV, mIf, mTup, mLst, mList, asB_b, allS_leaf, wipe_n, wipe_c, wset_z, wset_s, tYesM, oAsg, mLc_1, mLc_2, pairK_t, triK_t, mEnum, mZip, mRange1_b, mRange2_b, oApp, oStore, mOwn_z, mOwn_s, mDefN, oSeqN, mHeard_b, oFrz, frz1_z, frz1_n, frz1_s, oRetN, oSeqX, oRaiseIf, oLift, mDefX, noX, mRevA_b, revK_t, revK_l, oTold_b, oTold0_b, oBk, oCt, oPar3, mCut, mPart, perm_0, perm_01, perm_10, perm_012, perm_021, perm_102, perm_120, perm_201, perm_210, perm_0123, perm_0132, perm_0213, perm_0231, perm_0312, perm_0321, perm_1023, perm_1032, perm_1203, perm_1230, perm_1302, perm_1320, perm_2013, perm_2031, perm_2103, perm_2130, perm_2301, perm_2310, perm_3012, perm_3021, perm_3102, perm_3120, perm_3201, perm_3210, mListR1_b, gPut, gTp, gsCons, gsNil, mSeq, seq_l, seq_t, bind_assoc', bind_leaf, bind_fail, lineOk_1, lineOk_2, lineOk_3, lineOk_s, Nat.reduceLeDiff, mPeek_z, mPeek_s, mVar_z, mVar_s, put_z, put_s, opAdd_i, opSub_i, opNeg_i, cLt_i, cLe_i, cGt_i, cGe_i, cEq_i, cNe_i, fAbs_i, fInt_i, fLen_t, fLen_l, ix0, ix1, Bool.false_eq_true, Bool.not_true, Bool.not_false, List.length_cons, List.length_nil, List.map_cons, List.map_nil, List.cons_append, List.nil_append, List.replicate, Nat.reduceAdd, Nat.reduceSub, Nat.zero_add, if_true, if_false, ↓reduceIte, len, k2, k3, g1]
  rw [allS_bind]
  refine allS_mono (lckS (β := Nat) (L := List.range N) (fun _ d => d = .bl true) (by rw [List.length_range]; omega) (fun i hi => ⟨rfl, by
    have hi := List.mem_range.mp hi
    simp only [mDef, En.start, oSeq, oIf, oRet, oSet, oOwn, putOwn_z, putOwn_s, oPar, oNx, oFail, oEx, _root_.R.m2, _root_.R.m1, _root_.R.mA, aCons, aNil, _root_.R.mB, _root_.R.mC, mCh, _root_.R.mT, mNot, mAnd, mOr, mAndV, mOrV, mNotV, mIf, mTup, mLst, mList, asB_b, allS_leaf, wipe_n, wipe_c, wset_z, wset_s, tYesM, oAsg, mLc_1, mLc_2, pairK_t, triK_t, mEnum, mZip, mRange1_b, mRange2_b, oApp, oStore, mOwn_z, mOwn_s, mDefN, oSeqN, mHeard_b, oFrz, frz1_z, frz1_n, frz1_s, oRetN, oSeqX, oRaiseIf, oLift, mDefX, noX, mRevA_b, revK_t, revK_l, oTold_b, oTold0_b, oBk, oCt, oPar3, mCut, mPart, perm_0, perm_01, perm_10, perm_012, perm_021, perm_102, perm_120, perm_201, perm_210, perm_0123, perm_0132, perm_0213, perm_0231, perm_0312, perm_0321, perm_1023, perm_1032, perm_1203, perm_1230, perm_1302, perm_1320, perm_2013, perm_2031, perm_2103, perm_2130, perm_2301, perm_2310, perm_3012, perm_3021, perm_3102, perm_3120, perm_3201, perm_3210, mListR1_b, gPut, gTp, gsCons, gsNil, mSeq, seq_l, seq_t, bind_assoc', bind_leaf, bind_fail, lineOk_1, lineOk_2, lineOk_3, lineOk_s, Nat.reduceLeDiff, mPeek_z, mPeek_s, mVar_z, mVar_s, put_z, put_s, opAdd_i, opSub_i, opNeg_i, cLt_i, cLe_i, cGt_i, cGe_i, cEq_i, cNe_i, fAbs_i, fInt_i, fLen_t, fLen_l, ix0, ix1, Bool.false_eq_true, Bool.not_true, Bool.not_false, List.length_cons, List.length_nil, List.map_cons, List.map_nil, List.cons_append, List.nil_append, List.replicate, Nat.reduceAdd, Nat.reduceSub, Nat.zero_add, if_true, if_false, ↓reduceIte, law_pot_eq ns i (by omega)]
    exact right_S⟩)) fun ys hy => ?_
  obtain ⟨zs, rfl, ez, hzs⟩ := hy
  have ba := bls_all (zs.map (·.2)) fun y hy => by
    obtain ⟨z, hz, rfl⟩ := List.mem_map.mp hy
    exact hzs z hz
  simp only [mDef, En.start, oSeq, oIf, oRet, oSet, oOwn, putOwn_z, putOwn_s, oPar, oNx, oFail, oEx, _root_.R.m2, _root_.R.m1, _root_.R.mA, aCons, aNil, _root_.R.mB, _root_.R.mC, mCh, _root_.R.mT, mNot, mAnd, mOr, mAndV, mOrV, mNotV, mIf, mTup, mLst, mList, asB_b, allS_leaf, wipe_n, wipe_c, wset_z, wset_s, tYesM, oAsg, mLc_1, mLc_2, pairK_t, triK_t, mEnum, mZip, mRange1_b, mRange2_b, oApp, oStore, mOwn_z, mOwn_s, mDefN, oSeqN, mHeard_b, oFrz, frz1_z, frz1_n, frz1_s, oRetN, oSeqX, oRaiseIf, oLift, mDefX, noX, mRevA_b, revK_t, revK_l, oTold_b, oTold0_b, oBk, oCt, oPar3, mCut, mPart, perm_0, perm_01, perm_10, perm_012, perm_021, perm_102, perm_120, perm_201, perm_210, perm_0123, perm_0132, perm_0213, perm_0231, perm_0312, perm_0321, perm_1023, perm_1032, perm_1203, perm_1230, perm_1302, perm_1320, perm_2013, perm_2031, perm_2103, perm_2130, perm_2301, perm_2310, perm_3012, perm_3021, perm_3102, perm_3120, perm_3201, perm_3210, mListR1_b, gPut, gTp, gsCons, gsNil, mSeq, seq_l, seq_t, bind_assoc', bind_leaf, bind_fail, lineOk_1, lineOk_2, lineOk_3, lineOk_s, Nat.reduceLeDiff, mPeek_z, mPeek_s, mVar_z, mVar_s, put_z, put_s, opAdd_i, opSub_i, opNeg_i, cLt_i, cLe_i, cGt_i, cGe_i, cEq_i, cNe_i, fAbs_i, fInt_i, fLen_t, fLen_l, ix0, ix1, Bool.false_eq_true, Bool.not_true, Bool.not_false, List.length_cons, List.length_nil, List.map_cons, List.map_nil, List.cons_append, List.nil_append, List.replicate, Nat.reduceAdd, Nat.reduceSub, Nat.zero_add, if_true, if_false, ↓reduceIte, ba]
end Law

set_option Elab.async false
set_option linter.all false
set_option maxRecDepth 100000
namespace Law
open PySem PySem.Spec PyProof.Rows L2 R
section
variable {P : Program} {w : World} {K : PySem.W.Frag} {mg : Str → Option Value} {h : Heap} {fa : Addr}
theorem end_mk (a_is_integer : At K mg "is_integer" s_is_integer) (a_divisor : At K mg "divisor" s_divisor) (a_is_fraction_of : At K mg "is_fraction_of" s_is_fraction_of) (a_reduced : At K mg "reduced" s_reduced) (a_add : At K mg "add" s_add) (a_total : At K mg "total" s_total) (a_is_lot_of : At K mg "is_lot_of" s_is_lot_of) (a_is_short : At K mg "is_short" s_is_short) (a_is_short_lot : At K mg "is_short_lot" s_is_short_lot) (a_check_lot : At K mg "check_lot" s_check_lot) (a_check_two : At K mg "check_two" s_check_two) (a_multiply : At K mg "multiply" s_multiply) (a_beside : At K mg "beside" s_beside) (a_law_plain : At K mg "_law_plain" s_law_plain) (a_law_plus : At K mg "_law_plus" s_law_plus) (a_law_total : At K mg "_law_total" s_law_total) (a_law_times : At K mg "_law_times" s_law_times) (a_law_draw : At K mg "_law_draw" s_law_draw) (a_law_lot : At K mg "_law_lot" s_law_lot) (a_is_list : At K mg "is_list" s_is_list) (a_check_lots : At K mg "check_lots" s_check_lots) (a_products_sum : At K mg "products_sum" s_products_sum) (a_mixed_of : At K mg "mixed_of" s_mixed_of) (a_mixed : At K mg "mixed" s_mixed) (a_is_lot : At K mg "is_lot" s_is_lot) (a_law_mean : At K mg "_law_mean" s_law_mean) (a_support_of : At K mg "support_of" s_support_of) (a_support : At K mg "support" s_support) (a_law_mixed : At K mg "_law_mixed" s_law_mixed) (a_is_within : At K mg "is_within" s_is_within) (a_are_places : At K mg "are_places" s_are_places) (a_check_places : At K mg "check_places" s_check_places) (a_has_of : At K mg "has_of" s_has_of) (a_has : At K mg "has" s_has) (a_law_fraction : At K mg "_law_fraction" s_law_fraction) (a_law_spread : At K mg "_law_spread" s_law_spread) (a_are_worths : At K mg "are_worths" s_are_worths) (a_check_worths : At K mg "check_worths" s_check_worths) (a_mean_of : At K mg "mean_of" s_mean_of) (a_take : At K mg "take" s_take) (a_spread : At K mg "spread" s_spread) (a_mean : At K mg "mean" s_mean) (a_divide : At K mg "divide" s_divide) (a_given_that : At K mg "given_that" s_given_that) (a_common_bottom : At K mg "common_bottom" s_common_bottom) (a_parts : At K mg "parts" s_parts) (a_law_one_right : At K mg "_law_one_right" s_law_one_right) (a_is_count : At K mg "is_count" s_is_count) (a_check_number : At K mg "check_number" s_check_number) (a_moved_of : At K mg "moved_of" s_moved_of) (a_moved : At K mg "moved" s_moved) (a_law_moved_right : At K mg "_law_moved_right" s_law_moved_right) (a_law_pick : At K mg "_law_pick" s_law_pick) (a_law_right : At K mg "_law_right" s_law_right) (a_law_pot : At K mg "_law_pot" s_law_pot) (a_law : At K mg "law" s_law) (k_MOST_DIGITS : ConR K mg "MOST_DIGITS" (.int 1000000000000)) (k_MOST_LOTS : ConR K mg "MOST_LOTS" (.int 6)) (k_MOST_PLACES : ConR K mg "MOST_PLACES" (.int 8)) (k_NOUGHT : ConR K mg "NOUGHT" (.tup [(.int 0), (.int 1)])) (k_ONE : ConR K mg "ONE" (.tup [(.int 1), (.int 1)])) (nb : Nb mg) {CS : Addr} {xB xn xi : String} {xbm : List Value} (xf_NoChance : ExcF K mg "NoChance" CS xB xn xi xbm) (a_law_heard : At K mg "_law_heard" s_law_heard) (t_law_one_right : PySem.W.tabIn K "_law_one_right" = some (TC_law_one_right, TP_law_one_right)) (hfa : mg "law" = some (.ref fa)) :
    ∃ fd : FuncData, (∀ (s : Shared) (v : Value), BindsTo s fd ⟨[v], []⟩ [("script", v)]) ∧ ∀ base : Heap, K.In base → base.Ns mainGlobals mg → (∀ x ∈ TBC, LamX.TabB base mg x.1 x.2.1) → FnG P w K mg base 13 fa fd ["script"] (spF K f_law) := by
  obtain ⟨f, fd, F, hm⟩ := id a_law
  have e := hfa.symm.trans hm
  cases e
  have F0 := F
  obtain ⟨oc, od, kV, doc, pm, an, cdv, ct, osl, e, lk, hcd⟩ := F.ex
  refine ⟨fd, fun s v => by rw [e]; exact .of_eq rfl, fun base KB GB tbs => all_ok a_is_integer a_divisor a_is_fraction_of a_reduced a_add a_total a_is_lot_of a_is_short a_is_short_lot a_check_lot a_check_two a_multiply a_beside a_law_plain a_law_plus a_law_total a_law_times a_law_draw a_law_lot a_is_list a_check_lots a_products_sum a_mixed_of a_mixed a_is_lot a_law_mean a_support_of a_support a_law_mixed a_is_within a_are_places a_check_places a_has_of a_has a_law_fraction a_law_spread a_are_worths a_check_worths a_mean_of a_take a_spread a_mean a_divide a_given_that a_common_bottom a_parts a_law_one_right a_is_count a_check_number a_moved_of a_moved a_law_moved_right a_law_pick a_law_right a_law_pot a_law k_MOST_DIGITS k_MOST_LOTS k_MOST_PLACES k_NOUGHT k_ONE nb xf_NoChance a_law_heard t_law_one_right KB GB tbs fa fd F0⟩
end
end Law
open PySem PySem.W PyProof.Rows
set_option maxHeartbeats 0 in
theorem PySem.Challenge.cw_chancepairs_k13_whole_lots_mixed_moved_g_holds : PySem.Challenge.rw_chancepairs_k13_whole_lots_mixed_moved_g.Holds := by
  w_on; o_law; k_head; (case hw => w_witness2)
  k_fill
  refine R.walk_RG (l := PySem.Challenge.rw_chancepairs_k13_whole_lots_mixed_moved_g) (n := 63) (k := 13) (x := "script") (fn := Law.f_law) rfl (by decide) rfl ⟨rfl, by decide, by decide⟩ (fun w h Y => PySem.W.km_in_of Y) ?Tb ?F (fun ns _ _ => (Law.law_S ns).h)
  case Tb =>
    intro w x hx
    simp only [R.TBC, List.mem_cons, List.not_mem_nil, or_false] at hx
    rcases hx with rfl
    · exact ⟨"_law_one_right", _, rfl, by kernel_rfl, by kernel_rfl⟩
  case F =>
    intro w mg fa h XL KX G hmg
    refine' Law.end_mk (R.at_of KX G ?a0 ?l0 ?c0 ?k0) (R.at_of KX G ?a1 ?l1 ?c1 ?k1) (R.at_of KX G ?a2 ?l2 ?c2 ?k2) (R.at_of KX G ?a3 ?l3 ?c3 ?k3) (R.at_of KX G ?a4 ?l4 ?c4 ?k4) (R.at_of KX G ?a5 ?l5 ?c5 ?k5) (R.at_of KX G ?a6 ?l6 ?c6 ?k6) (R.at_of KX G ?a7 ?l7 ?c7 ?k7) (R.at_of KX G ?a8 ?l8 ?c8 ?k8) (R.at_of KX G ?a9 ?l9 ?c9 ?k9) (R.at_of KX G ?a10 ?l10 ?c10 ?k10) (R.at_of KX G ?a11 ?l11 ?c11 ?k11) (R.at_of KX G ?a12 ?l12 ?c12 ?k12) (R.at_of KX G ?a13 ?l13 ?c13 ?k13) (R.at_of KX G ?a14 ?l14 ?c14 ?k14) (R.at_of KX G ?a15 ?l15 ?c15 ?k15) (R.at_of KX G ?a16 ?l16 ?c16 ?k16) (R.at_of KX G ?a17 ?l17 ?c17 ?k17) (R.at_of KX G ?a18 ?l18 ?c18 ?k18) (R.at_of KX G ?a19 ?l19 ?c19 ?k19) (R.at_of KX G ?a20 ?l20 ?c20 ?k20) (R.at_of KX G ?a21 ?l21 ?c21 ?k21) (R.at_of KX G ?a22 ?l22 ?c22 ?k22) (R.at_of KX G ?a23 ?l23 ?c23 ?k23) (R.at_of KX G ?a24 ?l24 ?c24 ?k24) (R.at_of KX G ?a25 ?l25 ?c25 ?k25) (R.at_of KX G ?a26 ?l26 ?c26 ?k26) (R.at_of KX G ?a27 ?l27 ?c27 ?k27) (R.at_of KX G ?a28 ?l28 ?c28 ?k28) (R.at_of KX G ?a29 ?l29 ?c29 ?k29) (R.at_of KX G ?a30 ?l30 ?c30 ?k30) (R.at_of KX G ?a31 ?l31 ?c31 ?k31) (R.at_of KX G ?a32 ?l32 ?c32 ?k32) (R.at_of KX G ?a33 ?l33 ?c33 ?k33) (R.at_of KX G ?a34 ?l34 ?c34 ?k34) (R.at_of KX G ?a35 ?l35 ?c35 ?k35) (R.at_of KX G ?a36 ?l36 ?c36 ?k36) (R.at_of KX G ?a37 ?l37 ?c37 ?k37) (R.at_of KX G ?a38 ?l38 ?c38 ?k38) (R.at_of KX G ?a39 ?l39 ?c39 ?k39) (R.at_of KX G ?a40 ?l40 ?c40 ?k40) (R.at_of KX G ?a41 ?l41 ?c41 ?k41) (R.at_of KX G ?a42 ?l42 ?c42 ?k42) (R.at_of KX G ?a43 ?l43 ?c43 ?k43) (R.at_of KX G ?a44 ?l44 ?c44 ?k44) (R.at_of KX G ?a45 ?l45 ?c45 ?k45) (R.at_of KX G ?a46 ?l46 ?c46 ?k46) (R.at_of KX G ?a47 ?l47 ?c47 ?k47) (R.at_of KX G ?a48 ?l48 ?c48 ?k48) (R.at_of KX G ?a49 ?l49 ?c49 ?k49) (R.at_of KX G ?a50 ?l50 ?c50 ?k50) (R.at_of KX G ?a51 ?l51 ?c51 ?k51) (R.at_of KX G ?a52 ?l52 ?c52 ?k52) (R.at_of KX G ?a53 ?l53 ?c53 ?k53) (R.at_of KX G ?a54 ?l54 ?c54 ?k54) (R.at_of KX G ?a55 ?l55 ?c55 ?k55) (R.con_loose XL (by simp)) (R.con_int KX G ?z_MOST_LOTS) (R.con_int KX G ?z_MOST_PLACES) (R.con_pair KX G ?z_NOUGHT ?y_NOUGHT) (R.con_pair KX G ?z_ONE ?y_ONE) ⟨PySem.W.mg_none_of KX G ?n_abs, PySem.W.mg_none_of KX G ?n_all, PySem.W.mg_none_of KX G ?n_any, PySem.W.mg_none_of KX G ?n_bool, PySem.W.mg_none_of KX G ?n_divmod, PySem.W.mg_none_of KX G ?n_enumerate, PySem.W.mg_none_of KX G ?n_int, PySem.W.mg_none_of KX G ?n_isinstance, PySem.W.mg_none_of KX G ?n_len, PySem.W.mg_none_of KX G ?n_list, PySem.W.mg_none_of KX G ?n_max, PySem.W.mg_none_of KX G ?n_min, PySem.W.mg_none_of KX G ?n_range, PySem.W.mg_none_of KX G ?n_repr, PySem.W.mg_none_of KX G ?n_set, PySem.W.mg_none_of KX G ?n_sum, PySem.W.mg_none_of KX G ?n_tuple, PySem.W.mg_none_of KX G ?n_zip⟩ (R.exc_of KX G PySem.F.excBase_RuntimeError ?xa ?xi ?xk ?xs ?xt ?xe) (R.at_of KX G ?ah ?lh ?ch ?kh) ?t_law_one_right hmg
    (case a0 => k_is); (case l0 => k_is); (case c0 => k_is); (case k0 => k_is); (case a1 => k_is); (case l1 => k_is); (case c1 => k_is); (case k1 => k_is); (case a2 => k_is); (case l2 => k_is); (case c2 => k_is); (case k2 => k_is); (case a3 => k_is); (case l3 => k_is); (case c3 => k_is); (case k3 => k_is); (case a4 => k_is); (case l4 => k_is); (case c4 => k_is); (case k4 => k_is); (case a5 => k_is); (case l5 => k_is); (case c5 => k_is); (case k5 => k_is); (case a6 => k_is); (case l6 => k_is); (case c6 => k_is); (case k6 => k_is); (case a7 => k_is); (case l7 => k_is); (case c7 => k_is); (case k7 => k_is); (case a8 => k_is); (case l8 => k_is); (case c8 => k_is); (case k8 => k_is); (case a9 => k_is); (case l9 => k_is); (case c9 => k_is); (case k9 => k_is); (case a10 => k_is); (case l10 => k_is); (case c10 => k_is); (case k10 => k_is); (case a11 => k_is); (case l11 => k_is); (case c11 => k_is); (case k11 => k_is); (case a12 => k_is); (case l12 => k_is); (case c12 => k_is); (case k12 => k_is); (case a13 => k_is); (case l13 => k_is); (case c13 => k_is); (case k13 => k_is); (case a14 => k_is); (case l14 => k_is); (case c14 => k_is); (case k14 => k_is); (case a15 => k_is); (case l15 => k_is); (case c15 => k_is); (case k15 => k_is); (case a16 => k_is); (case l16 => k_is); (case c16 => k_is); (case k16 => k_is); (case a17 => k_is); (case l17 => k_is); (case c17 => k_is); (case k17 => k_is); (case a18 => k_is); (case l18 => k_is); (case c18 => k_is); (case k18 => k_is); (case a19 => k_is); (case l19 => k_is); (case c19 => k_is); (case k19 => k_is); (case a20 => k_is); (case l20 => k_is); (case c20 => k_is); (case k20 => k_is); (case a21 => k_is); (case l21 => k_is); (case c21 => k_is); (case k21 => k_is); (case a22 => k_is); (case l22 => k_is); (case c22 => k_is); (case k22 => k_is); (case a23 => k_is); (case l23 => k_is); (case c23 => k_is); (case k23 => k_is); (case a24 => k_is); (case l24 => k_is); (case c24 => k_is); (case k24 => k_is); (case a25 => k_is); (case l25 => k_is); (case c25 => k_is); (case k25 => k_is); (case a26 => k_is); (case l26 => k_is); (case c26 => k_is); (case k26 => k_is); (case a27 => k_is); (case l27 => k_is); (case c27 => k_is); (case k27 => k_is); (case a28 => k_is); (case l28 => k_is); (case c28 => k_is); (case k28 => k_is); (case a29 => k_is); (case l29 => k_is); (case c29 => k_is); (case k29 => k_is); (case a30 => k_is); (case l30 => k_is); (case c30 => k_is); (case k30 => k_is); (case a31 => k_is); (case l31 => k_is); (case c31 => k_is); (case k31 => k_is); (case a32 => k_is); (case l32 => k_is); (case c32 => k_is); (case k32 => k_is); (case a33 => k_is); (case l33 => k_is); (case c33 => k_is); (case k33 => k_is); (case a34 => k_is); (case l34 => k_is); (case c34 => k_is); (case k34 => k_is); (case a35 => k_is); (case l35 => k_is); (case c35 => k_is); (case k35 => k_is); (case a36 => k_is); (case l36 => k_is); (case c36 => k_is); (case k36 => k_is); (case a37 => k_is); (case l37 => k_is); (case c37 => k_is); (case k37 => k_is); (case a38 => k_is); (case l38 => k_is); (case c38 => k_is); (case k38 => k_is); (case a39 => k_is); (case l39 => k_is); (case c39 => k_is); (case k39 => k_is); (case a40 => k_is); (case l40 => k_is); (case c40 => k_is); (case k40 => k_is); (case a41 => k_is); (case l41 => k_is); (case c41 => k_is); (case k41 => k_is); (case a42 => k_is); (case l42 => k_is); (case c42 => k_is); (case k42 => k_is); (case a43 => k_is); (case l43 => k_is); (case c43 => k_is); (case k43 => k_is); (case a44 => k_is); (case l44 => k_is); (case c44 => k_is); (case k44 => k_is); (case a45 => k_is); (case l45 => k_is); (case c45 => k_is); (case k45 => k_is); (case a46 => k_is); (case l46 => k_is); (case c46 => k_is); (case k46 => k_is); (case a47 => k_is); (case l47 => k_is); (case c47 => k_is); (case k47 => k_is); (case a48 => k_is); (case l48 => k_is); (case c48 => k_is); (case k48 => k_is); (case a49 => k_is); (case l49 => k_is); (case c49 => k_is); (case k49 => k_is); (case a50 => k_is); (case l50 => k_is); (case c50 => k_is); (case k50 => k_is); (case a51 => k_is); (case l51 => k_is); (case c51 => k_is); (case k51 => k_is); (case a52 => k_is); (case l52 => k_is); (case c52 => k_is); (case k52 => k_is); (case a53 => k_is); (case l53 => k_is); (case c53 => k_is); (case k53 => k_is); (case a54 => k_is); (case l54 => k_is); (case c54 => k_is); (case k54 => k_is); (case a55 => k_is); (case l55 => k_is); (case c55 => k_is); (case k55 => k_is); (case z_MOST_LOTS => k_is); (case z_MOST_PLACES => k_is); (case z_NOUGHT => k_is); (case y_NOUGHT => k_is); (case z_ONE => k_is); (case y_ONE => k_is); (case n_abs => k_is); (case n_all => k_is); (case n_any => k_is); (case n_bool => k_is); (case n_divmod => k_is); (case n_enumerate => k_is); (case n_int => k_is); (case n_isinstance => k_is); (case n_len => k_is); (case n_list => k_is); (case n_max => k_is); (case n_min => k_is); (case n_range => k_is); (case n_repr => k_is); (case n_set => k_is); (case n_sum => k_is); (case n_tuple => k_is); (case n_zip => k_is); (case xa => k_is); (case xi => kernel_rfl); (case xk => k_is); (case xs => k_is); (case xt => k_is); (case xe => kernel_rfl); (case ah => k_is); (case lh => k_is); (case ch => k_is); (case kh => k_is); (case t_law_one_right => kernel_rfl)
