import PyProof.Rows.All
import Wide.All
import OpenK.AllK
import Wide.FinOn
import HandS.ForMost
import HandS.Lambda
import HandS.Wide
import HandS.WideBits
import HandS.TupAny
import HandS.TupMul
import HandS.IsInst
import HandS.Zip
import HandS.Conv
import HandS.EndBits
import HandS.Style
import HandS.RaiseMore
import PyProof.ReprRoads
import HandS.SetFor
import HandS.WordsExc
import PyProof.ReprLen
import PySem.Challenge.RW_chancepairs_k90_any_value_as_look_garbli
/-! the code objects of the defs that make a lambda, their tables, the lambdas' names; the defs that are values (this row's) -/
namespace R
open PySem
def TBC : List (Addr × Addr × Str) := []
def TB : List (Addr × Str) := TBC.map fun x => (x.2.1, x.2.2)
def FNS : List (Addr × Str) := [(99, "is_fraction_of"), (153, "is_lot_of"), (158, "is_short_lot")]
end R

set_option Elab.async false
set_option linter.all false
set_option maxRecDepth 100000
/-! R: a plain-data reading over the hand layer. D: data; Tree: what a run gives, over all draws; a def is a plain function from data to trees. -/
namespace R
open PySem PySem.Spec PyProof.Rows L2

/-! ### runs -/
inductive Tree (α : Type) where
  | leaf (a : α)
  | fail
  | draw (n : Nat) (k : Nat → Tree α)
namespace Tree
variable {α β : Type}
def bind : Tree α → (α → Tree β) → Tree β
  | .leaf a, f => f a
  | .fail, _ => .fail
  | .draw n k, f => .draw n fun i => (k i).bind f
def all (P : α → Prop) : Tree α → Prop
  | .leaf a => P a
  | .fail => False
  | .draw n k => ∀ i, i < n → (k i).all P
theorem all_mono {P P' : α → Prop} (h : ∀ a, P a → P' a) : ∀ {t : Tree α}, t.all P → t.all P'
  | .leaf a, q => h a q
  | .fail, q => q
  | .draw n k, q => fun i hi => all_mono h (q i hi)
theorem all_bind {P : β → Prop} {f : α → Tree β} : ∀ {t : Tree α}, (t.bind f).all P ↔ t.all fun a => (f a).all P
  | .leaf a => Iff.rfl
  | .fail => Iff.rfl
  | .draw n k => ⟨fun q i hi => all_bind.mp (q i hi), fun q i hi => all_bind.mpr (q i hi)⟩
theorem all_and {P P' : α → Prop} : ∀ {t : Tree α}, t.all P → t.all P' → t.all fun a => P a ∧ P' a
  | .leaf a, p, q => ⟨p, q⟩
  | .fail, p, _ => p
  | .draw n k, p, q => fun i hi => all_and (p i hi) (q i hi)
def allB (P : α → Bool) : Tree α → Bool
  | .leaf a => P a
  | .fail => false
  | .draw n k => (List.range n).all fun i => (k i).allB P
theorem all_of_allB {P : α → Bool} : ∀ {t : Tree α}, t.allB P = true → t.all fun a => P a = true
  | .leaf _, q => q
  | .fail, q => by cases q
  | .draw n k, q => fun i hi => all_of_allB (List.all_eq_true.mp q i (List.mem_range.mpr hi))
def guard (c : Bool) (t : Tree α) : Tree α := if c = true then t else .fail
theorem all_guard {c : Bool} {t : Tree α} {P : α → Prop} (h : (guard c t).all P) : c = true ∧ t.all P := by
  unfold guard at h
  split at h
  · exact ⟨by assumption, h⟩
  · exact h.elim
end Tree

/-! ### data -/
inductive D where
  | non | bl (b : Bool) | int (i : Int) | str (x : Str) | tup (xs : List D) | lst (xs : List D) | pot | ty (n : String) | scr (ns : List Int) | dct | fn (n : Nat)

/-- what stands still (P), where the pots are (T) -/
structure Fz where
  P : Hp
  T : Addr → Prop
def PotOk (o : Option HO) : Prop := ∃ p q : Int, o = some (.lst [.int p, .int q]) ∧ 0 ≤ p ∧ 0 ≤ q ∧ q < 4294967296
structure Good (F : Fz) (H : Hp) : Prop where
  sub : Same F.P H
  pot : ∀ a, F.T a → F.P a = none ∧ PotOk (H a)
  nt : ∀ a ps, F.P a ≠ some (.tbl ps)
  tab : LamX.Tabs TB H
/-- tables stay where only lists change -/
theorem tabs_stay {T : List (Addr × Str)} {H H' : Hp} (t : LamX.Tabs T H) (k : ∀ a o, H a = some o → (∀ xs, o ≠ .lst xs) → H' a = some o) : LamX.Tabs T H' := fun p hp => by
  obtain ⟨ps, h1, h2, h3⟩ := t p hp
  refine ⟨ps, k _ _ h1 (fun xs z => by cases z), h2, fun pos cv hc => ?_⟩
  obtain ⟨c, e, h⟩ := h3 pos cv hc
  exact ⟨c, e, k _ _ h fun xs z => by unfold LamX.CodeO at z; cases z⟩
theorem tabs_new {T : List (Addr × Str)} {H : Hp} {p : Addr} {o : HO} (t : LamX.Tabs T H) (hp : H p = none) : LamX.Tabs T (upd H p o) := t.ext fun b u e => by rw [upd_ne (ne_of_none e hp)]; exact e
/-- nothing there that one's own object could be -/
def NT (H : Hp) (a : Addr) : Prop := ∀ o, H a = some o → ∃ ps, o = .tbl ps
theorem NT.none {H : Hp} {a : Addr} (h : H a = none) : NT H a := fun o z => by rw [h] at z; cases z
structure Ext (F : Fz) (H : Hp) (F' : Fz) (H' : Hp) : Prop where
  good : Good F' H'
  mono : Same F.P F'.P
  monoT : ∀ a, F.T a → F'.T a
  keep : ∀ a o, H a = some o → ¬ F.T a → (∀ ps, o ≠ .tbl ps) → H' a = some o
  fresh : ∀ a, (F'.P a ≠ none ∨ F'.T a) → F.P a ≠ none ∨ F.T a ∨ NT H a
theorem Ext.back {F F' : Fz} {H H' : Hp} (e : Ext F H F' H') {a : Addr} (h : NT H' a) (n : ¬ F.T a) : NT H a := fun o z => by
  by_cases q : ∃ ps, o = .tbl ps
  · exact q
  · exact absurd (h o (e.keep a o z n fun ps hq => q ⟨ps, hq⟩)) q
theorem Ext.refl {F : Fz} {H : Hp} (g : Good F H) : Ext F H F H := ⟨g, Same.refl _, fun _ h => h, fun _ _ h _ _ => h, fun _ h => h.elim .inl fun z => .inr (.inl z)⟩
theorem Ext.trans {F F1 F2 : Fz} {H H1 H2 : Hp} (a : Ext F H F1 H1) (b : Ext F1 H1 F2 H2) : Ext F H F2 H2 where
  good := b.good
  mono := a.mono.trans b.mono
  monoT := fun c h => b.monoT c (a.monoT c h)
  keep := fun c o h n nt => by
    have h1 := a.keep c o h n nt
    by_cases t : F1.T c
    · rcases a.fresh c (.inr t) with z | z | z
      · cases q : F.P c with
        | none => exact absurd q z
        | some u =>
          have e := a.mono c u q
          rw [(a.good.pot c t).1] at e; cases e
      · exact absurd z n
      · obtain ⟨ps, q⟩ := z o h; exact absurd q (nt ps)
    · exact b.keep c o h1 t nt
  fresh := fun c h => by
    rcases b.fresh c h with z | z | z
    · exact a.fresh c (.inl z)
    · exact a.fresh c (.inr z)
    · by_cases t : F.T c
      · exact .inr (.inl t)
      · exact .inr (.inr (a.back z t))

def sqT_same {K : PySem.W.Frag} {H H' : Hp} {a : Addr} {xs : List V} (e : Same H H') (h : SqT K H a xs) : SqT K H' a xs := by
  rcases h with (h | ⟨o, h⟩) | h
  · exact .inl (.inl (e _ _ h))
  · exact .inl (.inr ⟨o, e _ _ h⟩)
  · exact .inr h

/-- a tuple that stands still: tracked, or of the module -/
def TupAt (K : PySem.W.Frag) (P : Hp) (a : Addr) (xs : List V) : Prop := P a = some (.tup xs) ∨
  ∃ (o : Obj) (its : Array Value) (n : Nat), K.lookup a = some o ∧ o.cls = .type "tuple" ∧ o.data = .seq its n ∧ its.size ≤ sizeLine ∧ Vals xs its.toList
theorem TupAt.sq {K : PySem.W.Frag} {P : Hp} {a : Addr} {xs : List V} (h : TupAt K P a xs) : SqT K P a xs := h.elim (fun h => .inl (.inl h)) .inr
theorem TupAt.same {K : PySem.W.Frag} {P P' : Hp} {a : Addr} {xs : List V} (e : Same P P') (h : TupAt K P a xs) : TupAt K P' a xs := h.elim (fun h => .inl (e _ _ h)) .inr
theorem TupAt.of {K : PySem.W.Frag} {P : Hp} {a : Addr} {xs : List V} (h : P a = some (.tup xs)) : TupAt K P a xs := .inl h
mutual
inductive Rep (K : PySem.W.Frag) (F : Fz) : V → D → Prop where
  | non : Rep K F .non .non
  | bl (b : Bool) : Rep K F (.bl b) (.bl b)
  | int (i : Int) : Rep K F (.int i) (.int i)
  | str (x : Str) : Rep K F (.str x) (.str x)
  | tup {a : Addr} {xs : List V} {ds : List D} : TupAt K F.P a xs → Reps K F xs ds → Rep K F (.ref a) (.tup ds)
  | lst {a : Addr} {xs : List V} {ds : List D} : F.P a = some (.lst xs) → Reps K F xs ds → Rep K F (.ref a) (.lst ds)
  | pot {a : Addr} : F.T a → Rep K F (.ref a) .pot
  | ty (n : String) : Rep K F (.ty n) (.ty n)
  | scr {a : Addr} {ns : List Int} : SqL K F.P a (ns.map V.int) → Rep K F (.ref a) (.scr ns)
  | dct {a : Addr} : F.P a = some (.dK []) → Rep K F (.ref a) .dct
  | fn {a : Addr} {n : Nat} {x : Str} : FNS[n]? = some (a, x) → Rep K F (.ref a) (.fn n)
inductive Reps (K : PySem.W.Frag) (F : Fz) : List V → List D → Prop where
  | nil : Reps K F [] []
  | cons {v : V} {d : D} {vs : List V} {ds : List D} : Rep K F v d → Reps K F vs ds → Reps K F (v :: vs) (d :: ds)
end
structure Fz.Le (F F' : Fz) : Prop where
  p : Same F.P F'.P
  t : ∀ a, F.T a → F'.T a
theorem Ext.le {F F' : Fz} {H H' : Hp} (e : Ext F H F' H') : F.Le F' := ⟨e.mono, e.monoT⟩
mutual
theorem Rep.mono {K : PySem.W.Frag} {F F' : Fz} (l : F.Le F') : ∀ {v : V} {d : D}, Rep K F v d → Rep K F' v d
  | _, _, .non => .non
  | _, _, .bl b => .bl b
  | _, _, .int i => .int i
  | _, _, .str x => .str x
  | _, _, .tup h r => .tup (h.same l.p) (Reps.mono l r)
  | _, _, .lst h r => .lst (l.p _ _ h) (Reps.mono l r)
  | _, _, .pot h => .pot (l.t _ h)
  | _, _, .ty n => .ty n
  | _, _, .scr h => .scr (l.p.seq h)
  | _, _, .dct h => .dct (l.p _ _ h)
  | _, _, .fn h => .fn h
theorem Reps.mono {K : PySem.W.Frag} {F F' : Fz} (l : F.Le F') : ∀ {vs : List V} {ds : List D}, Reps K F vs ds → Reps K F' vs ds
  | _, _, .nil => .nil
  | _, _, .cons h r => .cons (Rep.mono l h) (Reps.mono l r)
end
section
variable {K : PySem.W.Frag} {F F' : Fz} {H H' : Hp}
theorem Reps.length : ∀ {vs : List V} {ds : List D}, Reps K F vs ds → vs.length = ds.length
  | _, _, .nil => rfl
  | _, _, .cons _ r => by simp [Reps.length r]
theorem Reps.get : ∀ {vs : List V} {ds : List D} {i : Nat} {v : V}, Reps K F vs ds → vs[i]? = some v → ∃ d, ds[i]? = some d ∧ Rep K F v d
  | _, _, _, _, .nil, e => by simp at e
  | _, _, 0, _, .cons h _, e => by simp at e; subst e; exact ⟨_, rfl, h⟩
  | _, _, i + 1, v, .cons _ r, e => by
    obtain ⟨d, h1, h2⟩ := Reps.get (i := i) (v := v) r (by simpa using e)
    exact ⟨d, by simpa using h1, h2⟩
theorem Reps.get' : ∀ {vs : List V} {ds : List D} {i : Nat} {d : D}, Reps K F vs ds → ds[i]? = some d → ∃ v, vs[i]? = some v ∧ Rep K F v d
  | _, _, _, _, .nil, e => by simp at e
  | _, _, 0, _, .cons h _, e => by simp at e; subst e; exact ⟨_, rfl, h⟩
  | _, _, i + 1, v, .cons _ r, e => by
    obtain ⟨d, h1, h2⟩ := Reps.get' (i := i) (d := v) r (by simpa using e)
    exact ⟨d, by simpa using h1, h2⟩
theorem Reps.append : ∀ {vs ws : List V} {ds es : List D}, Reps K F vs ds → Reps K F ws es → Reps K F (vs ++ ws) (ds ++ es)
  | _, _, _, _, .nil, s => s
  | _, _, _, _, .cons h r, s => .cons h (Reps.append r s)
theorem Reps.set {v : V} {d : D} (h : Rep K F v d) : ∀ {vs : List V} {ds : List D} (i : Nat), Reps K F vs ds → Reps K F (vs.set i v) (ds.set i d)
  | _, _, _, .nil => .nil
  | _, _, 0, .cons _ r => .cons h r
  | _, _, i + 1, .cons q r => .cons q (Reps.set h i r)
theorem Reps.take : ∀ {vs : List V} {ds : List D} (n : Nat), Reps K F vs ds → Reps K F (vs.take n) (ds.take n)
  | _, _, 0, _ => .nil
  | _, _, _ + 1, .nil => .nil
  | _, _, n + 1, .cons h r => .cons h (Reps.take n r)
theorem Reps.drop : ∀ {vs : List V} {ds : List D} (n : Nat), Reps K F vs ds → Reps K F (vs.drop n) (ds.drop n)
  | _, _, 0, r => r
  | _, _, _ + 1, .nil => .nil
  | _, _, n + 1, .cons _ r => Reps.drop n r
theorem Reps.eraseIdx : ∀ {vs : List V} {ds : List D} (n : Nat), Reps K F vs ds → Reps K F (vs.eraseIdx n) (ds.eraseIdx n)
  | _, _, _, .nil => .nil
  | _, _, 0, .cons _ r => r
  | _, _, n + 1, .cons h r => .cons h (Reps.eraseIdx n r)
theorem Reps.rep {vs : List V} {ds : List D} (r : Reps K F vs ds) : ∀ n : Nat, Reps K F ((List.replicate n vs).flatten) ((List.replicate n ds).flatten)
  | 0 => .nil
  | n + 1 => by
    rw [List.replicate_succ, List.replicate_succ, List.flatten_cons, List.flatten_cons]
    exact r.append (Reps.rep r n)
theorem Reps.cut {vs ws : List V} {ds : List D} : Reps K F (vs ++ ws) ds → ∃ es fs, ds = es ++ fs ∧ Reps K F vs es ∧ Reps K F ws fs := by
  induction vs generalizing ds with
  | nil => exact fun r => ⟨[], ds, rfl, .nil, r⟩
  | cons v vs ih =>
    intro r
    cases r with
    | cons h r =>
      obtain ⟨es, fs, rfl, r1, r2⟩ := ih r
      exact ⟨_ :: es, fs, rfl, .cons h r1, r2⟩

/-! ### new objects -/
theorem Good.new {p : Addr} {o : HO} (g : Good F H) (hp : H p = none) : Good F (upd H p o) := ⟨fun a u h => by rw [upd_ne (ne_of_none (g.sub a u h) hp)]; exact g.sub a u h, fun a t => by
  obtain ⟨h1, h2⟩ := g.pot a t
  refine ⟨h1, ?_⟩
  obtain ⟨x, y, e, z⟩ := h2
  rw [upd_ne (ne_of_none e hp)]
  exact ⟨x, y, e, z⟩, g.nt, tabs_new g.tab hp⟩
/-- a new object, not yet still -/
theorem Ext.new {p : Addr} {o : HO} (g : Good F H) (hp : H p = none) : Ext F H F (upd H p o) :=
  ⟨g.new hp, Same.refl _, fun _ h => h, fun a u h _ _ => by rw [upd_ne (ne_of_none h hp)]; exact h, fun _ h => h.elim .inl fun z => .inr (.inl z)⟩
/-- an own object is made still -/
def Fz.add (F : Fz) (p : Addr) (o : HO) : Fz := ⟨upd F.P p o, F.T⟩
theorem Good.add {p : Addr} {o : HO} (g : Good F H) (hp : H p = some o) (n : F.P p = none) (t : ¬ F.T p) (ht : ∀ ps, o ≠ .tbl ps) : Good (F.add p o) H := ⟨fun a u h => by
    by_cases e : a = p
    · subst e; rw [show (F.add a o).P a = some o from upd_same] at h; cases h; exact hp
    · rw [show (F.add p o).P a = F.P a from upd_ne e] at h; exact g.sub a u h,
  fun a ta => by
    have e : a ≠ p := fun e => t (e ▸ ta)
    exact ⟨by rw [show (F.add p o).P a = F.P a from upd_ne e]; exact (g.pot a ta).1, (g.pot a ta).2⟩, fun a ps h => by
    by_cases e : a = p
    · subst e; rw [show (F.add a o).P a = some o from upd_same] at h; cases h; exact ht ps rfl
    · rw [show (F.add p o).P a = F.P a from upd_ne e] at h; exact g.nt a ps h, g.tab⟩
theorem Fz.le_add {p : Addr} {o : HO} (n : F.P p = none) : F.Le (F.add p o) := ⟨fun a u h => by
  rw [show (F.add p o).P a = F.P a from upd_ne (ne_of_none h n)]; exact h, fun _ h => h⟩
theorem Good.free {p : Addr} (g : Good F H) (hp : H p = none) : F.P p = none ∧ ¬ F.T p := by
  constructor
  · cases q : F.P p with
    | none => rfl
    | some o => rw [g.sub p o q] at hp; cases hp
  · intro t
    obtain ⟨x, y, e, _⟩ := (g.pot p t).2
    rw [e] at hp; cases hp
theorem Ext.addNew {p : Addr} {o : HO} (g : Good F H) (hp : H p = none) (ht : ∀ ps, o ≠ .tbl ps := by intro _ z; cases z) : Ext F H (F.add p o) (upd H p o) := by
  obtain ⟨n, t⟩ := g.free hp
  refine ⟨(g.new hp).add upd_same n t ht, (Fz.le_add n).p, fun _ h => h, (Ext.new g hp).keep, fun a h => ?_⟩
  rcases h with h | h
  · by_cases e : a = p
    · subst e; exact .inr (.inr (.none hp))
    · rw [show (F.add p o).P a = F.P a from upd_ne e] at h; exact .inl h
  · exact .inr (.inl h)
theorem Ext.freeze {F0 : Fz} {H0 : Hp} {p : Addr} {o : HO} (e : Ext F0 H0 F H) (hp : H p = some o) (n : F.P p = none) (t : ¬ F.T p) (h0 : NT H0 p) (ht : ∀ ps, o ≠ .tbl ps := by intro _ z; cases z) : Ext F0 H0 (F.add p o) H := by
  refine ⟨e.good.add hp n t ht, e.mono.trans (Fz.le_add n).p, e.monoT, e.keep, fun a h => ?_⟩
  by_cases q : a = p
  · subst q; exact .inr (.inr h0)
  · rcases h with h | h
    · rw [show (F.add p o).P a = F.P a from upd_ne q] at h; exact e.fresh a (.inl h)
    · exact e.fresh a (.inr h)
/-- an own object is changed -/
theorem Ext.write {F0 : Fz} {H0 : Hp} {p : Addr} {o : HO} (e : Ext F0 H0 F H) (n : F.P p = none) (t : ¬ F.T p) (h0 : NT H0 p) (hl : ∃ xs, H p = some (.lst xs)) : Ext F0 H0 F (upd H p o) := by
  obtain ⟨xs, hl⟩ := hl
  refine ⟨⟨fun a u h => ?_, fun a ta => ?_, e.good.nt, tabs_stay e.good.tab fun a u h nl => ?_⟩, e.mono, e.monoT, fun a u h nt ntb => ?_, e.fresh⟩
  · rw [upd_ne (ne_of_none h n)]; exact e.good.sub a u h
  · rw [upd_ne (fun z : a = p => t (by rw [← z]; exact ta))]; exact e.good.pot a ta
  · rw [upd_ne (fun z : a = p => by rw [z, hl] at h; cases h; exact nl _ rfl)]; exact h
  · rw [upd_ne (fun z : a = p => by obtain ⟨ps, q⟩ := h0 u (z ▸ h); exact ntb ps q)]; exact e.keep a u h nt ntb

/-! ### a value that is looked at: still, or an own list as it stands -/
inductive Pk (K : PySem.W.Frag) (F : Fz) (H : Hp) : V → D → Prop where
  | rep {v : V} {d : D} : Rep K F v d → Pk K F H v d
  | own {a : Addr} {xs : List V} {ds : List D} : H a = some (.lst xs) → ¬ F.T a → F.P a = none → Reps K F xs ds → Pk K F H (.ref a) (.lst ds)
theorem Pk.ext {v : V} {d : D} (e : Ext F H F' H') : Pk K F H v d → Pk K F' H' v d
  | .rep r => .rep (r.mono e.le)
  | .own h t n r => .own (e.keep _ _ h t fun ps z => by cases z) (fun t' => by
      rcases e.fresh _ (.inr t') with z | z | z
      · exact z n
      · exact t z
      · obtain ⟨ps, q⟩ := z _ h; cases q) (by
      cases q : F'.P _ with
      | none => rfl
      | some o =>
        rcases e.fresh _ (.inl (by rw [q]; intro z; cases z)) with z | z | z
        · exact absurd n z
        · exact absurd z t
        · obtain ⟨ps, q⟩ := z _ h; cases q) (r.mono e.le)
theorem Pk.int {v : V} {i : Int} (h : Pk K F H v (.int i)) : v = .int i := by
  cases h with | rep r => cases r; rfl
theorem Pk.bl {v : V} {i : Bool} (h : Pk K F H v (.bl i)) : v = .bl i := by
  cases h with | rep r => cases r; rfl
theorem Pk.str {v : V} {i : Str} (h : Pk K F H v (.str i)) : v = .str i := by
  cases h with | rep r => cases r; rfl
theorem Pk.non {v : V} (h : Pk K F H v .non) : v = .non := by
  cases h with | rep r => cases r; rfl
theorem Pk.lst {v : V} {ds : List D} (h : Pk K F H v (.lst ds)) (g : Good F H) : ∃ a xs, v = .ref a ∧ H a = some (.lst xs) ∧ Reps K F xs ds := by
  cases h with
  | rep r =>
    cases r with
    | lst h r => exact ⟨_, _, rfl, g.sub _ _ h, r⟩
  | own h t n r => exact ⟨_, _, rfl, h, r⟩
theorem Pk.ty {v : V} {i : String} (h : Pk K F H v (.ty i)) : v = .ty i := by
  cases h with | rep r => cases r; rfl
theorem Pk.scr {v : V} {ns : List Int} (h : Pk K F H v (.scr ns)) (g : Good F H) : ∃ a, v = .ref a ∧ SqL K H a (ns.map V.int) := by
  cases h with
  | rep r =>
    cases r with
    | scr h => exact ⟨_, rfl, g.sub.seq h⟩
theorem Pk.tup {v : V} {ds : List D} (h : Pk K F H v (.tup ds)) (g : Good F H) : ∃ a xs, v = .ref a ∧ SqT K H a xs ∧ Reps K F xs ds := by
  cases h with
  | rep r =>
    cases r with
    | tup h r => exact ⟨_, _, rfl, sqT_same g.sub h.sq, r⟩
end

/-! ### the slots -/
structure Slot where
  own : Bool
  d : D
abbrev En := List (Option Slot)
/-- B: where own lists may stand -/
structure RelE (K : PySem.W.Frag) (B : Addr → Prop) (F : Fz) (H : Hp) (σ : L2.St) (E : En) : Prop where
  len : σ.length = E.length
  val : ∀ (i : Nat) (d : D), E[i]? = some (some ⟨false, d⟩) → ∃ v, σ[i]? = some (some v) ∧ Rep K F v d
  own : ∀ (i : Nat) (d : D), E[i]? = some (some ⟨true, d⟩) → ∃ a xs ds, σ[i]? = some (some (.ref a)) ∧ d = .lst ds ∧ H a = some (.lst xs) ∧ Reps K F xs ds ∧ F.P a = none ∧ ¬ F.T a ∧ B a
  dist : ∀ (i j : Nat) (d e : D) (a : Addr), i ≠ j → E[i]? = some (some ⟨true, d⟩) → E[j]? = some (some ⟨true, e⟩) → σ[i]? = some (some (.ref a)) → σ[j]? ≠ some (some (.ref a))
section
variable {K : PySem.W.Frag} {B : Addr → Prop} {F F' : Fz} {H H' : Hp} {σ : L2.St} {E : En}
theorem own_ext {a : Addr} {o : List V} (e : Ext F H F' H') (h : H a = some (.lst o)) (n : F.P a = none) (t : ¬ F.T a) : H' a = some (.lst o) ∧ F'.P a = none ∧ ¬ F'.T a := by
  refine ⟨e.keep _ _ h t (fun ps z => by cases z), ?_, fun t' => ?_⟩
  · cases q : F'.P a with
    | none => rfl
    | some o =>
      rcases e.fresh _ (.inl (by rw [q]; intro z; cases z)) with z | z | z
      · exact absurd n z
      · exact absurd z t
      · obtain ⟨ps, q⟩ := z _ h; cases q
  · rcases e.fresh _ (.inr t') with z | z | z
    · exact z n
    · exact t z
    · obtain ⟨ps, q⟩ := z _ h; cases q
theorem RelE.ext (r : RelE K B F H σ E) (e : Ext F H F' H') : RelE K B F' H' σ E where
  len := r.len
  val := fun i d h => by
    obtain ⟨v, h1, h2⟩ := r.val i d h
    exact ⟨v, h1, h2.mono e.le⟩
  own := fun i d h => by
    obtain ⟨a, xs, ds, h1, h2, h3, h4, h5, h6, h7⟩ := r.own i d h
    obtain ⟨g1, g2, g3⟩ := own_ext e h3 h5 h6
    exact ⟨a, xs, ds, h1, h2, g1, h4.mono e.le, g2, g3, h7⟩
  dist := r.dist
/-- a still value is stored -/
theorem RelE.put {v : V} {d : D} (r : RelE K B F H σ E) (i : Nat) (h : Rep K F v d) : RelE K B F H (σ.set i (some v)) (E.set i (some ⟨false, d⟩)) where
  len := by simp [r.len]
  val := fun j x hx => by
    by_cases hj : i = j
    · subst hj
      by_cases hl : i < E.length
      · rw [List.getElem?_set_self hl] at hx; cases hx
        exact ⟨v, List.getElem?_set_self (by rw [r.len]; exact hl), h⟩
      · rw [List.getElem?_eq_none (by simpa using hl)] at hx; cases hx
    · rw [List.getElem?_set_ne hj] at hx ⊢; exact r.val j x hx
  own := fun j x hx => by
    by_cases hj : i = j
    · subst hj
      by_cases hl : i < E.length
      · rw [List.getElem?_set_self hl] at hx; cases hx
      · rw [List.getElem?_eq_none (by simpa using hl)] at hx; cases hx
    · rw [List.getElem?_set_ne hj] at hx ⊢; exact r.own j x hx
  dist := fun j k x y a hjk hx hy ha hb => by
    have nj : i ≠ j := fun e => by
      subst e
      by_cases hl : i < E.length
      · rw [List.getElem?_set_self hl] at hx; cases hx
      · rw [List.getElem?_eq_none (by simpa using hl)] at hx; cases hx
    have nk : i ≠ k := fun e => by
      subst e
      by_cases hl : i < E.length
      · rw [List.getElem?_set_self hl] at hy; cases hy
      · rw [List.getElem?_eq_none (by simpa using hl)] at hy; cases hy
    rw [List.getElem?_set_ne nj] at hx ha
    rw [List.getElem?_set_ne nk] at hy hb
    exact r.dist j k x y a hjk hx hy ha hb
/-- a slot is forgotten -/
theorem RelE.drop (r : RelE K B F H σ E) (i : Nat) (o : Option V) : RelE K B F H (σ.set i o) (E.set i none) where
  len := by simp [r.len]
  val := fun j x hx => by
    by_cases hj : i = j
    · subst hj
      by_cases hl : i < E.length
      · rw [List.getElem?_set_self hl] at hx; cases hx
      · rw [List.getElem?_eq_none (by simpa using hl)] at hx; cases hx
    · rw [List.getElem?_set_ne hj] at hx ⊢; exact r.val j x hx
  own := fun j x hx => by
    by_cases hj : i = j
    · subst hj
      by_cases hl : i < E.length
      · rw [List.getElem?_set_self hl] at hx; cases hx
      · rw [List.getElem?_eq_none (by simpa using hl)] at hx; cases hx
    · rw [List.getElem?_set_ne hj] at hx ⊢; exact r.own j x hx
  dist := fun j k x y a hjk hx hy ha hb => by
    have nj : i ≠ j := fun e => by
      subst e
      by_cases hl : i < E.length
      · rw [List.getElem?_set_self hl] at hx; cases hx
      · rw [List.getElem?_eq_none (by simpa using hl)] at hx; cases hx
    have nk : i ≠ k := fun e => by
      subst e
      by_cases hl : i < E.length
      · rw [List.getElem?_set_self hl] at hy; cases hy
      · rw [List.getElem?_eq_none (by simpa using hl)] at hy; cases hy
    rw [List.getElem?_set_ne nj] at hx ha
    rw [List.getElem?_set_ne nk] at hy hb
    exact r.dist j k x y a hjk hx hy ha hb
end
end R

set_option Elab.async false
set_option linter.all false
set_option maxRecDepth 100000
namespace R
open PySem PySem.Spec PyProof.Rows L2
open Tree (leaf fail)

/-! ### judgements -/
def tE (K : PySem.W.Frag) (m : En → Tree D) : TE := fun σ H Q => ∃ B F E, Good F H ∧ RelE K B F H σ E ∧ (m E).all fun d => ∀ v F' H', Ext F H F' H' → Rep K F' v d → Q v H'
def tP (K : PySem.W.Frag) (m : En → Tree D) : TE := fun σ H Q => ∃ B F E, Good F H ∧ RelE K B F H σ E ∧ (m E).all fun d => ∀ v F' H', Ext F H F' H' → Pk K F' H' v d → Q v H'
/-- a new list of one's own -/
def tL (K : PySem.W.Frag) (m : En → Tree (List D)) : TE := fun σ H Q => ∃ B F E, Good F H ∧ RelE K B F H σ E ∧ (m E).all fun ds => ∀ a xs F' H', Ext F H F' H' → H' a = some (.lst xs) → F'.P a = none → ¬ F'.T a → NT H a → Reps K F' xs ds → Q (.ref a) H'
def tT (K : PySem.W.Frag) (m : En → Tree Bool) : TT := fun σ H Q => ∃ B F E, Good F H ∧ RelE K B F H σ E ∧ (m E).all fun b => ∀ F' H', Ext F H F' H' → Q b H'
def tA (K : PySem.W.Frag) (m : En → Tree (List D)) : TA := fun σ H Q => ∃ B F E, Good F H ∧ RelE K B F H σ E ∧ (m E).all fun ds => ∀ vs F' H', Ext F H F' H' → Reps K F' vs ds → Q vs H'
abbrev Pks (K : PySem.W.Frag) (F : Fz) (H : Hp) : List V → List D → Prop := Paired (Pk K F H)
def tPA (K : PySem.W.Frag) (m : En → Tree (List D)) : TA := fun σ H Q => ∃ B F E, Good F H ∧ RelE K B F H σ E ∧ (m E).all fun ds => ∀ vs F' H', Ext F H F' H' → Pks K F' H' vs ds → Q vs H'
structure SE (X : Cx) (e : Expr) (m : En → Tree D) : Prop where
  pe : PE X e (tE X.K m)
structure SP (X : Cx) (e : Expr) (m : En → Tree D) : Prop where
  pe : PE X e (tP X.K m)
structure SL (X : Cx) (e : Expr) (m : En → Tree (List D)) : Prop where
  pe : PE X e (tL X.K m)
structure ST (X : Cx) (e : Expr) (m : En → Tree Bool) : Prop where
  pt : PT X e (tT X.K m)
structure SW (X : Cx) (e : Expr) (m : En → Tree Bool) : Prop where
  pw : PW X e (tT X.K m)
structure SA (X : Cx) (es : List Expr) (m : En → Tree (List D)) : Prop where
  pa : PA X es (tA X.K m)
structure SPA (X : Cx) (es : List Expr) (m : En → Tree (List D)) : Prop where
  pa : PA X es (tPA X.K m)

section
variable {X : Cx}
theorem PE.weak {e : Expr} {t t' : TE} (h : PE X e t) (w : ∀ σ H Q, t' σ H Q → t σ H Q) : PE X e t' := ⟨fun pins s σ H Q I q => h.run pins s σ H Q I (w σ H Q q)⟩
theorem PT.weak {e : Expr} {t t' : TT} (h : PT X e t) (w : ∀ σ H Q, t' σ H Q → t σ H Q) : PT X e t' := ⟨fun pins s σ H Q I q => h.run pins s σ H Q I (w σ H Q q)⟩
theorem PW.weak {e : Expr} {t t' : TT} (h : PW X e t) (w : ∀ σ H Q, t' σ H Q → t σ H Q) : PW X e t' := ⟨fun wh pins s σ H Q I q => h.run wh pins s σ H Q I (w σ H Q q)⟩
theorem PA.weak {es : List Expr} {t t' : TA} (h : PA X es t) (w : ∀ σ H Q, t' σ H Q → t σ H Q) : PA X es t' := ⟨fun pos pins s σ H Q I q => h.run pos pins s σ H Q I (w σ H Q q)⟩
theorem PS.weak {st : Stmt} {t t' : TS} (h : PS X st t) (w : ∀ D σ H, t' D σ H → t D σ H) : PS X st t' := ⟨fun pins s σ H D I q => h.run pins s σ H D I (w D σ H q)⟩
theorem PSs.weak {st : List Stmt} {t t' : TS} (h : PSs X st t) (w : ∀ D σ H, t' D σ H → t D σ H) : PSs X st t' := ⟨fun pins s σ H D I q => h.run pins s σ H D I (w D σ H q)⟩

theorem SE.sp {e : Expr} {m : En → Tree D} (h : SE X e m) : SP X e m := ⟨PE.weak h.pe fun σ H Q ⟨B, F, E, g, r, q⟩ => ⟨B, F, E, g, r, Tree.all_mono (fun d k v F' H' e rp => k v F' H' e (.rep rp)) q⟩⟩
def mList (m : En → Tree (List D)) : En → Tree D := fun E => (m E).bind fun ds => leaf (.lst ds)
theorem SL.se {e : Expr} {m : En → Tree (List D)} (h : SL X e m) : SE X e (mList m) := ⟨PE.weak h.pe fun σ H Q ⟨B, F, E, g, r, q⟩ => ⟨B, F, E, g, r, Tree.all_mono (fun ds k a xs F' H' e h' n t h0 rp =>
  k (.ref a) (F'.add a (.lst xs)) H' (e.freeze h' n t h0) (.lst upd_same (rp.mono (Fz.le_add n)))) (Tree.all_bind.mp q)⟩⟩

/-! ### constants, names -/
theorem se_of {e : Expr} {v : V} {d : D} (h : PE X e (tC v)) (r : ∀ F, Rep X.K F v d) : SE X e (fun _ => leaf d) := ⟨PE.weak h fun σ H Q ⟨B, F, E, g, rl, q⟩ => q v F H (Ext.refl g) (r F)⟩
theorem se_int {i : Int} {j pos} : SE X (.Constant (.int i) j pos) (fun _ => leaf (.int i)) := se_of pe_int fun _ => .int i
theorem se_bl {b : Bool} {j pos} : SE X (.Constant (.bool b) j pos) (fun _ => leaf (.bl b)) := se_of pe_bl fun _ => .bl b
theorem se_non {j pos} : SE X (.Constant .none j pos) (fun _ => leaf .non) := se_of pe_non fun _ => .non
theorem se_str {x : Str} {j pos} : SE X (.Constant (.str x) j pos) (fun _ => leaf (.str x)) := se_of pe_str fun _ => .str x
def mVar (i : Nat) : En → Tree D := fun E => match E[i]? with
  | some (some ⟨false, d⟩) => leaf d
  | _ => fail
def mPeek (i : Nat) : En → Tree D := fun E => match E[i]? with
  | some (some ⟨_, d⟩) => leaf d
  | _ => fail
theorem se_var {i : Nat} {x : Str} {pos : Pos} (h : PE X (.Name x pos) (tVar i)) : SE X (.Name x pos) (mVar i) := ⟨PE.weak h fun σ H Q ⟨B, F, E, g, rl, q⟩ => by
  unfold mVar at q
  split at q
  · rename_i d e
    obtain ⟨v, h1, h2⟩ := rl.val i d e
    exact ⟨v, h1, q v F H (Ext.refl g) h2⟩
  · exact q.elim⟩
theorem sp_var {i : Nat} {x : Str} {pos : Pos} (h : PE X (.Name x pos) (tVar i)) : SP X (.Name x pos) (mPeek i) := ⟨PE.weak h fun σ H Q ⟨B, F, E, g, rl, q⟩ => by
  unfold mPeek at q
  split at q
  · rename_i o d e
    cases o with
    | false =>
      obtain ⟨v, h1, h2⟩ := rl.val i d e
      exact ⟨v, h1, q v F H (Ext.refl g) (.rep h2)⟩
    | true =>
      obtain ⟨a, xs, ds, h1, rfl, h3, h4, h5, h6, _⟩ := rl.own i d e
      exact ⟨.ref a, h1, q (.ref a) F H (Ext.refl g) (.own h3 h6 h5 h4)⟩
  · exact q.elim⟩

/-! ### two parts in a row -/
def m2 (f : D → D → Tree D) (ma mb : En → Tree D) : En → Tree D := fun E => (ma E).bind fun d => (mb E).bind fun e => f d e
def m1 (f : D → Tree D) (ma : En → Tree D) : En → Tree D := fun E => (ma E).bind fun d => f d
/-- what a two-place operation on values asks, by data -/
def Op2 (K : PySem.W.Frag) (r : R2) (f : D → D → Tree D) : Prop := ∀ F H v u d e Q, Good F H → Pk K F H v d → Pk K F H u e → ((f d e).all fun z => ∀ w F' H', Ext F H F' H' → Rep K F' w z → Q w H') → r v u H Q
/-- .. whose answer is a bool, where nothing changes -/
def Cmp2 (K : PySem.W.Frag) (r : R2) (f : D → D → Tree Bool) : Prop := ∀ F H v u d e Q, Good F H → Pk K F H v d → Pk K F H u e → ((f d e).all fun b => Q (.bl b) H) → r v u H Q
theorem two {K : PySem.W.Frag} {ma mb : En → Tree D} {f : D → D → Tree D} {r : R2} (hf : Op2 K r f) {σ : L2.St} {H : Hp} {Q : VK} (h : tE K (m2 f ma mb) σ H Q) : tOp r (tP K ma) (tP K mb) σ H Q := by
  obtain ⟨B, F, E, g, rl, q⟩ := h
  refine ⟨B, F, E, g, rl, Tree.all_mono (fun d k v F1 H1 e1 p1 => ?_) (Tree.all_bind.mp q)⟩
  refine ⟨B, F1, E, e1.good, rl.ext e1, Tree.all_mono (fun e k u F2 H2 e2 p2 => ?_) (Tree.all_bind.mp k)⟩
  exact hf F2 H2 v u d e Q e2.good (p1.ext e2) p2 (Tree.all_mono (fun z kz w F3 H3 e3 rz => kz w F3 H3 ((e1.trans e2).trans e3) rz) k)
variable {a b c : Expr} {ma mb mc : En → Tree D} {pos : Pos}
theorem se_op {op : Operator} {r : R2} {f : D → D → Tree D} (ho : OpR X (binaryOp op) r) (hf : Op2 X.K r f) (ha : SP X a ma) (hb : SP X b mb) : SE X (.BinOp a op b pos) (m2 f ma mb) := ⟨PE.weak (pe_op ho ha.pe hb.pe) fun _ _ _ h => two hf h⟩
theorem se_ix {r : R2} {f : D → D → Tree D} (ho : IxR X r) (hf : Op2 X.K r f) (ha : SP X a ma) (hb : SP X b mb) (hs : PlainIx b) : SE X (.Subscript a b pos) (m2 f ma mb) := ⟨PE.weak (pe_ix ho ha.pe hb.pe hs) fun _ _ _ h => two hf h⟩
def mB (m : En → Tree Bool) : En → Tree D := fun E => (m E).bind fun b => leaf (.bl b)
def mC (f : D → D → Tree Bool) (ma mb : En → Tree D) : En → Tree Bool := fun E => (ma E).bind fun d => (mb E).bind fun e => f d e
theorem se_cmp {op : CmpOp} {r : R2} {f : D → D → Tree Bool} (ho : OpR X (compareOp op) r) (hf : Cmp2 X.K r f) (ha : SP X a ma) (hb : SP X b mb) (hm : behindInMarks op b = false) : SE X (.Compare a [op] [b] pos) (mB (mC f ma mb)) := by
  refine ⟨PE.weak (pe_cmpR ho ha.pe hb.pe hm) fun σ H Q ⟨B, F, E, g, rl, q⟩ => ?_⟩
  refine ⟨B, F, E, g, rl, Tree.all_mono (fun d k v F1 H1 e1 p1 => ?_) (Tree.all_bind.mp (Tree.all_bind.mp q))⟩
  refine ⟨B, F1, E, e1.good, rl.ext e1, Tree.all_mono (fun e k u F2 H2 e2 p2 => ?_) (Tree.all_bind.mp k)⟩
  exact hf F2 H2 v u d e Q e2.good (p1.ext e2) p2 (Tree.all_mono (fun z kz => kz (.bl z) F2 H2 (e1.trans e2) (.bl z)) k)
theorem st_cmp {op : CmpOp} {r : R2} {f : D → D → Tree Bool} (ho : OpR X (compareOp op) r) (hf : Cmp2 X.K r f) (ha : SP X a ma) (hb : SP X b mb) (hm : behindInMarks op b = false) : ST X (.Compare a [op] [b] pos) (mC f ma mb) := by
  refine ⟨PT.weak (pt_cmpR ho ha.pe hb.pe hm) fun σ H Q ⟨B, F, E, g, rl, q⟩ => ?_⟩
  refine ⟨B, F, E, g, rl, Tree.all_mono (fun d k v F1 H1 e1 p1 => ?_) (Tree.all_bind.mp q)⟩
  refine ⟨B, F1, E, e1.good, rl.ext e1, Tree.all_mono (fun e k u F2 H2 e2 p2 => ?_) (Tree.all_bind.mp k)⟩
  exact hf F2 H2 v u d e _ e2.good (p1.ext e2) p2 (Tree.all_mono (fun z kz => ⟨z, rfl, kz F2 H2 (e1.trans e2)⟩) k)
/-- a < b < c -/
def mCh (f g : D → D → Tree Bool) (ma mb mc : En → Tree D) : En → Tree Bool := fun E => (ma E).bind fun d => (mb E).bind fun e => (f d e).bind fun x => if x = true then (mc E).bind fun z => g e z else leaf false
theorem chain {K : PySem.W.Frag} {r r' : R2} {f f' : D → D → Tree Bool} (hf : Cmp2 K r f) (hf' : Cmp2 K r' f') {σ : L2.St} {H : Hp} {Q : VK} {B : Addr → Prop} {F : Fz} {E : En} (g : Good F H) (rl : RelE K B F H σ E)
    (q : (mCh f f' ma mb mc E).all fun z => ∀ F' H', Ext F H F' H' → Q (.bl z) H') : tChain r r' (tP K ma) (tP K mb) (tP K mc) σ H Q := by
  refine ⟨B, F, E, g, rl, Tree.all_mono (fun d k v F1 H1 e1 p1 => ?_) (Tree.all_bind.mp q)⟩
  refine ⟨B, F1, E, e1.good, rl.ext e1, Tree.all_mono (fun e k u F2 H2 e2 p2 => ?_) (Tree.all_bind.mp k)⟩
  refine hf F2 H2 v u d e _ e2.good (p1.ext e2) p2 (Tree.all_mono (fun z kz => ⟨z, rfl, ?_⟩) (Tree.all_bind.mp k))
  cases z with
  | false =>
    rw [if_neg Bool.false_ne_true] at kz ⊢
    exact kz F2 H2 (e1.trans e2)
  | true =>
    rw [if_pos rfl] at kz ⊢
    refine ⟨B, F2, E, e2.good, (rl.ext e1).ext e2, Tree.all_mono (fun z k w F3 H3 e3 p3 => ?_) (Tree.all_bind.mp kz)⟩
    exact hf' F3 H3 u w e z _ e3.good (p2.ext e3) p3 (Tree.all_mono (fun y ky => ky F3 H3 ((e1.trans e2).trans e3)) k)
theorem se_chain {op op' : CmpOp} {r r' : R2} {f f' : D → D → Tree Bool} (ho : OpR X (compareOp op) r) (ho' : OpR X (compareOp op') r') (hf : Cmp2 X.K r f) (hf' : Cmp2 X.K r' f') (ha : SP X a ma) (hb : SP X b mb) (hc : SP X c mc)
    (hm : lastMarks [op, op'] [b, c] = false := by rfl) : SE X (.Compare a [op, op'] [b, c] pos) (mB (mCh f f' ma mb mc)) :=
  ⟨PE.weak (pe_chain ho ho' ha.pe hb.pe hc.pe hm) fun σ H Q ⟨B, F, E, g, rl, q⟩ => chain hf hf' g rl (Tree.all_mono (fun z k F' H' e => k (.bl z) F' H' e (.bl z)) (Tree.all_bind.mp q))⟩
theorem st_chain {op op' : CmpOp} {r r' : R2} {f f' : D → D → Tree Bool} (ho : OpR X (compareOp op) r) (ho' : OpR X (compareOp op') r') (hf : Cmp2 X.K r f) (hf' : Cmp2 X.K r' f') (ha : SP X a ma) (hb : SP X b mb) (hc : SP X c mc)
    (hm : lastMarks [op, op'] [b, c] = false := by rfl) : ST X (.Compare a [op, op'] [b, c] pos) (mCh f f' ma mb mc) :=
  ⟨PT.weak (pt_chain ho ho' ha.pe hb.pe hc.pe hm) fun σ H Q ⟨B, F, E, g, rl, q⟩ => chain hf hf' g rl (Tree.all_mono (fun z k F' H' e => ⟨z, rfl, k F' H' e⟩) q)⟩

/-! ### truth -/
def asB : D → Tree Bool
  | .bl b => leaf b
  | _ => fail
def mT (m : En → Tree D) : En → Tree Bool := fun E => (m E).bind asB
/-- an expression whose value is a bool, as a test -/
theorem st_val {e : Expr} {m : En → Tree D} (h : SP X e m) (he : ∀ whole, isTrue e X.env whole = (do let v ← whole; standAt e.pos; holding [v] (truthy v)) := by intro _; rfl) : ST X e (mT m) := by
  refine ⟨PT.weak (pt_val h.pe he) fun σ H Q ⟨B, F, E, g, rl, q⟩ => ?_⟩
  refine ⟨B, F, E, g, rl, Tree.all_mono (fun d k v F1 H1 e1 p1 => ?_) (Tree.all_bind.mp q)⟩
  cases d with
  | bl b => exact ⟨b, p1.bl, k F1 H1 e1⟩
  | _ => exact False.elim k
def mNot (m : En → Tree Bool) : En → Tree Bool := fun E => (m E).bind fun b => leaf (!b)
def mAnd (m n : En → Tree Bool) : En → Tree Bool := fun E => (m E).bind fun b => if b = true then n E else leaf false
def mOr (m n : En → Tree Bool) : En → Tree Bool := fun E => (m E).bind fun b => if b = true then leaf true else n E
theorem SW.st {e : Expr} {m : En → Tree Bool} (h : SW X e m) : ST X e m := ⟨h.pw.pt⟩
variable {rest : List Expr} {ta tb : En → Tree Bool}
theorem sw_and1 (ha : ST X a ta) : SW X (.BoolOp .And [a] pos) ta := ⟨pw_and1 ha.pt⟩
theorem sw_or1 (ha : ST X a ta) : SW X (.BoolOp .Or [a] pos) ta := ⟨pw_or1 ha.pt⟩
theorem sw_and (ha : ST X a ta) (hb : SW X (.BoolOp .And (b :: rest) pos) tb) : SW X (.BoolOp .And (a :: b :: rest) pos) (mAnd ta tb) := by
  refine ⟨PW.weak (pw_and ha.pt hb.pw) fun σ H Q ⟨B, F, E, g, rl, q⟩ => ?_⟩
  refine ⟨B, F, E, g, rl, Tree.all_mono (fun z k F1 H1 e1 => ?_) (Tree.all_bind.mp q)⟩
  cases z with
  | false => exact k F1 H1 e1
  | true => exact ⟨B, F1, E, e1.good, rl.ext e1, Tree.all_mono (fun y ky F2 H2 e2 => ky F2 H2 (e1.trans e2)) k⟩
theorem sw_or (ha : ST X a ta) (hb : SW X (.BoolOp .Or (b :: rest) pos) tb) : SW X (.BoolOp .Or (a :: b :: rest) pos) (mOr ta tb) := by
  refine ⟨PW.weak (pw_or ha.pt hb.pw) fun σ H Q ⟨B, F, E, g, rl, q⟩ => ?_⟩
  refine ⟨B, F, E, g, rl, Tree.all_mono (fun z k F1 H1 e1 => ?_) (Tree.all_bind.mp q)⟩
  cases z with
  | true => exact k F1 H1 e1
  | false => exact ⟨B, F1, E, e1.good, rl.ext e1, Tree.all_mono (fun y ky F2 H2 e2 => ky F2 H2 (e1.trans e2)) k⟩
theorem st_not (ha : ST X a ta) : ST X (.UnaryOp .Not a pos) (mNot ta) := by
  refine ⟨PT.weak (pt_not ha.pt) fun σ H Q ⟨B, F, E, g, rl, q⟩ => ?_⟩
  exact ⟨B, F, E, g, rl, Tree.all_mono (fun z k F1 H1 e1 => k F1 H1 e1) (Tree.all_bind.mp q)⟩
/-- .. as values: all but the last are bools -/
def mAndV (m n : En → Tree D) : En → Tree D := fun E => (m E).bind fun d => (asB d).bind fun b => if b = true then n E else leaf (.bl false)
def mOrV (m n : En → Tree D) : En → Tree D := fun E => (m E).bind fun d => (asB d).bind fun b => if b = true then leaf (.bl true) else n E
theorem se_one {op} (h : SE X a ma) : SE X (.BoolOp op [a] pos) ma := ⟨pe_one h.pe⟩
theorem se_and (ha : SE X a ma) (hb : SE X (.BoolOp .And (b :: rest) pos) mb) : SE X (.BoolOp .And (a :: b :: rest) pos) (mAndV ma mb) := by
  refine ⟨PE.weak (pe_and ha.pe hb.pe) fun σ H Q ⟨B, F, E, g, rl, q⟩ => ?_⟩
  refine ⟨B, F, E, g, rl, Tree.all_mono (fun d k v F1 H1 e1 p1 => ?_) (Tree.all_bind.mp q)⟩
  cases d with
  | bl z =>
    cases p1
    refine ⟨z, rfl, ?_⟩
    cases z with
    | false => exact k (.bl false) F1 H1 e1 (.bl false)
    | true => exact ⟨B, F1, E, e1.good, rl.ext e1, Tree.all_mono (fun y ky w F2 H2 e2 => ky w F2 H2 (e1.trans e2)) k⟩
  | _ => exact False.elim k
theorem se_or (ha : SE X a ma) (hb : SE X (.BoolOp .Or (b :: rest) pos) mb) : SE X (.BoolOp .Or (a :: b :: rest) pos) (mOrV ma mb) := by
  refine ⟨PE.weak (pe_or ha.pe hb.pe) fun σ H Q ⟨B, F, E, g, rl, q⟩ => ?_⟩
  refine ⟨B, F, E, g, rl, Tree.all_mono (fun d k v F1 H1 e1 p1 => ?_) (Tree.all_bind.mp q)⟩
  cases d with
  | bl z =>
    cases p1
    refine ⟨z, rfl, ?_⟩
    cases z with
    | true => exact k (.bl true) F1 H1 e1 (.bl true)
    | false => exact ⟨B, F1, E, e1.good, rl.ext e1, Tree.all_mono (fun y ky w F2 H2 e2 => ky w F2 H2 (e1.trans e2)) k⟩
  | _ => exact False.elim k
def mNotV (m : En → Tree D) : En → Tree D := fun E => (m E).bind fun d => (asB d).bind fun b => leaf (.bl !b)
theorem se_not (ha : SE X a ma) : SE X (.UnaryOp .Not a pos) (mNotV ma) := by
  refine ⟨PE.weak (pe_not ha.pe) fun σ H Q ⟨B, F, E, g, rl, q⟩ => ?_⟩
  refine ⟨B, F, E, g, rl, Tree.all_mono (fun d k v F1 H1 e1 p1 => ?_) (Tree.all_bind.mp q)⟩
  cases d with
  | bl z =>
    cases p1
    exact ⟨z, rfl, k (.bl !z) F1 H1 e1 (.bl !z)⟩
  | _ => exact False.elim k
def mIf (t : En → Tree Bool) (m n : En → Tree D) : En → Tree D := fun E => (t E).bind fun b => if b = true then m E else n E
theorem se_if (hc : ST X c ta) (ha : SE X a ma) (hb : SE X b mb) : SE X (.IfExp c a b pos) (mIf ta ma mb) := by
  refine ⟨PE.weak (pe_ifExp hc.pt ha.pe hb.pe) fun σ H Q ⟨B, F, E, g, rl, q⟩ => ?_⟩
  refine ⟨B, F, E, g, rl, Tree.all_mono (fun z k F1 H1 e1 => ?_) (Tree.all_bind.mp q)⟩
  cases z with
  | true => exact ⟨B, F1, E, e1.good, rl.ext e1, Tree.all_mono (fun y ky w F2 H2 e2 => ky w F2 H2 (e1.trans e2)) k⟩
  | false => exact ⟨B, F1, E, e1.good, rl.ext e1, Tree.all_mono (fun y ky w F2 H2 e2 => ky w F2 H2 (e1.trans e2)) k⟩

/-! ### argument lists -/
def aNil : En → Tree (List D) := fun _ => leaf []
def aCons (m : En → Tree D) (n : En → Tree (List D)) : En → Tree (List D) := fun E => (m E).bind fun d => (n E).bind fun ds => leaf (d :: ds)
variable {es : List Expr} {mr : En → Tree (List D)}
theorem sa_nil : SA X [] aNil := ⟨PA.weak pa_nil fun σ H Q ⟨B, F, E, g, rl, q⟩ => q [] F H (Ext.refl g) .nil⟩
theorem spa_nil : SPA X [] aNil := ⟨PA.weak pa_nil fun σ H Q ⟨B, F, E, g, rl, q⟩ => q [] F H (Ext.refl g) .nil⟩
theorem sa_cons (ha : SE X a ma) (hr : SA X es mr) (hs : starEach (a :: es) X.env = (false, eval a X.env) :: starEach es X.env := by rfl) : SA X (a :: es) (aCons ma mr) := by
  refine ⟨PA.weak (pa_cons ha.pe hr.pa hs) fun σ H Q ⟨B, F, E, g, rl, q⟩ => ?_⟩
  refine ⟨B, F, E, g, rl, Tree.all_mono (fun d k v F1 H1 e1 p1 => ?_) (Tree.all_bind.mp q)⟩
  refine ⟨B, F1, E, e1.good, rl.ext e1, Tree.all_mono (fun ds k vs F2 H2 e2 p2 => ?_) (Tree.all_bind.mp k)⟩
  exact k (v :: vs) F2 H2 (e1.trans e2) (.cons (p1.mono e2.le) p2)
theorem spa_cons (ha : SP X a ma) (hr : SPA X es mr) (hs : starEach (a :: es) X.env = (false, eval a X.env) :: starEach es X.env := by rfl) : SPA X (a :: es) (aCons ma mr) := by
  refine ⟨PA.weak (pa_cons ha.pe hr.pa hs) fun σ H Q ⟨B, F, E, g, rl, q⟩ => ?_⟩
  refine ⟨B, F, E, g, rl, Tree.all_mono (fun d k v F1 H1 e1 p1 => ?_) (Tree.all_bind.mp q)⟩
  refine ⟨B, F1, E, e1.good, rl.ext e1, Tree.all_mono (fun ds k vs F2 H2 e2 p2 => ?_) (Tree.all_bind.mp k)⟩
  exact k (v :: vs) F2 H2 (e1.trans e2) (.cons (p1.ext e2) p2)

/-! ### displays -/
def lineOk {α : Type} (n : Nat) (t : Tree α) : Tree α := if n ≤ sizeLine then t else fail
theorem lineOk_all {α : Type} {n : Nat} {t : Tree α} {P : α → Prop} (h : (lineOk n t).all P) : n ≤ sizeLine ∧ t.all P := by
  unfold lineOk at h
  split at h
  · exact ⟨by assumption, h⟩
  · exact h.elim
def mTup (m : En → Tree (List D)) : En → Tree D := fun E => (m E).bind fun ds => lineOk ds.length (leaf (.tup ds))
theorem se_tup {x1} (h : SA X es mr) : SE X (.Tuple es x1 pos) (mTup mr) := by
  refine ⟨PE.weak (pe_tup h.pa) fun σ H Q ⟨B, F, E, g, rl, q⟩ => ?_⟩
  refine ⟨B, F, E, g, rl, Tree.all_mono (fun ds k vs F1 H1 e1 p1 => ?_) (Tree.all_bind.mp q)⟩
  obtain ⟨hl, k⟩ := lineOk_all k
  refine ⟨by rw [p1.length]; exact hl, fun p hp => k (.ref p) (F1.add p (.tup vs)) _ (e1.trans (Ext.addNew e1.good hp)) (.tup (.of upd_same) (p1.mono (Fz.le_add (e1.good.free hp).1)))⟩
def mLst (m : En → Tree (List D)) : En → Tree (List D) := fun E => (m E).bind fun ds => lineOk ds.length (leaf ds)
theorem ext_none {F F' : Fz} {H H' : Hp} {p : Addr} (g : Good F H) (e : Ext F H F' H') (hp : H' p = none) : NT H p := by
  by_cases t : F.T p
  · obtain ⟨x, y, z, _⟩ := (e.good.pot p (e.monoT p t)).2
    rw [z] at hp; cases hp
  · exact e.back (.none hp) t
theorem sl_lst (h : SA X es mr) : SL X (.List es pos) (mLst mr) := by
  refine ⟨PE.weak (pe_lst h.pa) fun σ H Q ⟨B, F, E, g, rl, q⟩ => ?_⟩
  refine ⟨B, F, E, g, rl, Tree.all_mono (fun ds k vs F1 H1 e1 p1 => ?_) (Tree.all_bind.mp q)⟩
  obtain ⟨hl, k⟩ := lineOk_all k
  exact ⟨by rw [p1.length]; exact hl, fun p hp => k p vs F1 _ (e1.trans (Ext.new e1.good hp)) upd_same (e1.good.free hp).1 (e1.good.free hp).2 (ext_none g e1 hp) p1⟩

/-! ### calls -/
/-- what a call of values asks, by data -/
def Fn1 (K : PySem.W.Frag) (r : List V → Hp → VK → Prop) (f : List D → Tree D) : Prop := ∀ F H vs ds Q, Good F H → Pks K F H vs ds → ((f ds).all fun z => ∀ w F' H', Ext F H F' H' → Rep K F' w z → Q w H') → r vs H Q
def mA (f : List D → Tree D) (m : En → Tree (List D)) : En → Tree D := fun E => (m E).bind f
theorem callA {K : PySem.W.Frag} {r : List V → Hp → VK → Prop} {f : List D → Tree D} {m : En → Tree (List D)} (hf : Fn1 K r f) {σ : L2.St} {H : Hp} {Q : VK} (h : tE K (mA f m) σ H Q) : tPA K m σ H fun vs H1 => r vs H1 Q := by
  obtain ⟨B, F, E, g, rl, q⟩ := h
  refine ⟨B, F, E, g, rl, Tree.all_mono (fun ds k vs F1 H1 e1 p1 => ?_) (Tree.all_bind.mp q)⟩
  exact hf F1 H1 vs ds Q e1.good p1 (Tree.all_mono (fun z kz w F2 H2 e2 rz => kz w F2 H2 (e1.trans e2) rz) k)
end
end R

set_option Elab.async false
set_option linter.all false
set_option maxRecDepth 100000
namespace R
open PySem PySem.Spec PyProof.Rows L2
open Tree (leaf fail)

/-! ### statements -/
inductive Out where
  | nx (E : En) | rt (d : D) | bk (E : En) | ct (E : En)
section
variable (K : PySem.W.Frag) (F0 : Fz) (H0 : Hp) (F : Fz) (D0 : Ends)
def B0 (H0 : Hp) : Addr → Prop := fun a => NT H0 a
def PostE (T : L2.St → Hp → Prop) (E : En) : Prop := ∀ σ' F' H', Ext F0 H0 F' H' → F.Le F' → RelE K (B0 H0) F' H' σ' E → T σ' H'
def Post : Out → Prop
  | .nx E => PostE K F0 H0 F D0.nx E
  | .rt d => ∀ v F' H', Ext F0 H0 F' H' → F.Le F' → Rep K F' v d → D0.rt v H'
  | .bk E => PostE K F0 H0 F D0.bk E
  | .ct E => PostE K F0 H0 F D0.ct E
end
def tS (K : PySem.W.Frag) (m : En → Tree Out) : TS := fun D0 σ H => ∃ F0 H0 F E, Ext F0 H0 F H ∧ RelE K (B0 H0) F H σ E ∧ (m E).all (Post K F0 H0 F D0)
structure SS (X : Cx) (st : Stmt) (m : En → Tree Out) : Prop where
  ps : PS X st (tS X.K m)
structure SSs (X : Cx) (st : List Stmt) (m : En → Tree Out) : Prop where
  ps : PSs X st (tS X.K m)
theorem Fz.Le.trans {F F1 F2 : Fz} (a : F.Le F1) (b : F1.Le F2) : F.Le F2 := ⟨a.p.trans b.p, fun c h => b.t c (a.t c h)⟩
theorem Fz.Le.refl (F : Fz) : F.Le F := ⟨Same.refl _, fun _ h => h⟩
section
variable {K : PySem.W.Frag} {F0 F F1 : Fz} {H0 : Hp} {D0 : Ends}
theorem Post.le {o : Out} (l : F.Le F1) (h : Post K F0 H0 F D0 o) : Post K F0 H0 F1 D0 o := by
  cases o with
  | nx E => exact fun σ' F' H' e l' r => h σ' F' H' e (l.trans l') r
  | rt d => exact fun v F' H' e l' r => h v F' H' e (l.trans l') r
  | bk E => exact fun σ' F' H' e l' r => h σ' F' H' e (l.trans l') r
  | ct E => exact fun σ' F' H' e l' r => h σ' F' H' e (l.trans l') r
end

section
variable {X : Cx} {st : Stmt} {rest : List Stmt} {m n : En → Tree Out} {e : Expr} {me : En → Tree D} {pos : Pos}
def oNx : En → Tree Out := fun E => leaf (.nx E)
def oSeq (m n : En → Tree Out) : En → Tree Out := fun E => (m E).bind fun o => match o with
  | .nx E' => n E'
  | o => leaf o
theorem ss_nil : SSs X [] oNx := ⟨PSs.weak pss_nil fun D0 σ H ⟨F0, H0, F, E, e, r, q⟩ => q σ F H e (Fz.Le.refl F) r⟩
theorem ss_cons (h1 : SS X st m) (h2 : SSs X rest n) : SSs X (st :: rest) (oSeq m n) := by
  refine ⟨PSs.weak (pss_cons h1.ps h2.ps) fun D0 σ H ⟨F0, H0, F, E, e, r, q⟩ => ?_⟩
  refine ⟨F0, H0, F, E, e, r, Tree.all_mono (fun o k => ?_) (Tree.all_bind.mp q)⟩
  cases o with
  | nx E' => exact fun σ' F' H' e' l r' => ⟨F0, H0, F', E', e', r', Tree.all_mono (fun o h => h.le l) k⟩
  | rt d => exact k
  | bk E' => exact k
  | ct E' => exact k
theorem ss_one (h1 : SS X st m) : SSs X [st] m := ⟨pss_one h1.ps⟩
theorem s_pass : SS X (.Pass pos) oNx := ⟨PS.weak ps_pass fun D0 σ H ⟨F0, H0, F, E, e, r, q⟩ => q σ F H e (Fz.Le.refl F) r⟩
def oBk : En → Tree Out := fun E => leaf (.bk E)
def oCt : En → Tree Out := fun E => leaf (.ct E)
theorem s_break : SS X (.Break pos) oBk := ⟨PS.weak ps_break fun D0 σ H ⟨F0, H0, F, E, e, r, q⟩ => q σ F H e (Fz.Le.refl F) r⟩
theorem s_continue : SS X (.Continue pos) oCt := ⟨PS.weak ps_continue fun D0 σ H ⟨F0, H0, F, E, e, r, q⟩ => q σ F H e (Fz.Le.refl F) r⟩
def oFail : En → Tree Out := fun _ => fail
theorem s_never : SS X st oFail := ⟨PS.weak ps_never fun D0 σ H ⟨F0, H0, F, E, e, r, q⟩ => q.elim⟩
/-- an expression in a statement -/
theorem exprIn {K : PySem.W.Frag} {F0 F : Fz} {H0 H : Hp} {σ : L2.St} {E : En} {Q : VK} (e : Ext F0 H0 F H) (r : RelE K (B0 H0) F H σ E) (h : (me E).all fun d => ∀ v F' H', Ext F0 H0 F' H' → F.Le F' → RelE K (B0 H0) F' H' σ E → Rep K F' v d → Q v H') : tE K me σ H Q :=
  ⟨B0 H0, F, E, e.good, r, Tree.all_mono (fun d k v F' H' e' p => k v F' H' (e.trans e') e'.le (r.ext e') p) h⟩
def oEx (me : En → Tree D) : En → Tree Out := fun E => (me E).bind fun _ => leaf (.nx E)
theorem s_expr (he : SE X e me) (hs : swapsWith e none pos.line X.env = pure false := by rfl) : SS X (.Expr e pos) (oEx me) := ⟨PS.weak (ps_expr he.pe hs) fun D0 σ H ⟨F0, H0, F, E, e, r, q⟩ =>
  exprIn e r (Tree.all_mono (fun d k v F' H' e' l r' p => k σ F' H' e' l r') (Tree.all_bind.mp q))⟩
def oRet (me : En → Tree D) : En → Tree Out := fun E => (me E).bind fun d => leaf (.rt d)
theorem s_ret (he : SE X e me) : SS X (.Return (some e) pos) (oRet me) := ⟨PS.weak (ps_ret he.pe) fun D0 σ H ⟨F0, H0, F, E, e, r, q⟩ =>
  exprIn e r (Tree.all_mono (fun d k v F' H' e' l r' p => k v F' H' e' l p) (Tree.all_bind.mp q))⟩
def oRetN : En → Tree Out := fun _ => leaf (.rt .non)
theorem s_retN : SS X (.Return none pos) oRetN := ⟨PS.weak ps_retN fun D0 σ H ⟨F0, H0, F, E, e, r, q⟩ => q .non F H e (Fz.Le.refl F) .non⟩
def En.put (E : En) (i : Nat) (d : D) : En := E.set i (some ⟨false, d⟩)
def En.putOwn (E : En) (i : Nat) (d : D) : En := E.set i (some ⟨true, d⟩)
def oSet (i : Nat) (me : En → Tree D) : En → Tree Out := fun E => (me E).bind fun d => leaf (.nx (E.put i d))
theorem s_asg {i : Nat} {te : TE} (h : PS X st (tAsg te (gName i))) (w : ∀ σ H Q, tE X.K me σ H Q → te σ H Q) : SS X st (oSet i me) := ⟨PS.weak h fun D0 σ H ⟨F0, H0, F, E, e, r, q⟩ =>
  w _ _ _ (exprIn e r (Tree.all_mono (fun d k v F' H' e' l r' p => k _ F' H' e' l (r'.put i p)) (Tree.all_bind.mp q)))⟩
/-- a list of one's own at a name -/
theorem RelE.putOwn {K : PySem.W.Frag} {B : Addr → Prop} {F : Fz} {H : Hp} {σ : L2.St} {E : En} {a : Addr} {xs : List V} {ds : List D} (r : RelE K B F H σ E) (i : Nat) (h : H a = some (.lst xs)) (rp : Reps K F xs ds) (n : F.P a = none) (t : ¬ F.T a) (b : B a)
    (ne : ∀ (j : Nat) d, j ≠ i → E[j]? = some (some ⟨true, d⟩) → σ[j]? ≠ some (some (.ref a))) : RelE K B F H (σ.set i (some (.ref a))) (En.putOwn E i (.lst ds)) where
  len := by simp [r.len, En.putOwn]
  val := fun j x hx => by
    by_cases hj : i = j
    · subst hj
      by_cases hl : i < E.length
      · rw [En.putOwn, List.getElem?_set_self hl] at hx; cases hx
      · rw [En.putOwn, List.getElem?_eq_none (by simpa using hl)] at hx; cases hx
    · rw [En.putOwn, List.getElem?_set_ne hj] at hx; rw [List.getElem?_set_ne hj]; exact r.val j x hx
  own := fun j x hx => by
    by_cases hj : i = j
    · subst hj
      by_cases hl : i < E.length
      · rw [En.putOwn, List.getElem?_set_self hl] at hx; cases hx
        exact ⟨a, xs, ds, List.getElem?_set_self (by rw [r.len]; exact hl), rfl, h, rp, n, t, b⟩
      · rw [En.putOwn, List.getElem?_eq_none (by simpa using hl)] at hx; cases hx
    · rw [En.putOwn, List.getElem?_set_ne hj] at hx; rw [List.getElem?_set_ne hj]; exact r.own j x hx
  dist := fun j k x y c hjk hx hy ha hb => by
    unfold En.putOwn at hx hy
    by_cases hj : i = j
    · subst hj
      rw [List.getElem?_set_ne hjk] at hy hb
      by_cases hl : i < σ.length
      · rw [List.getElem?_set_self hl] at ha; cases ha
        exact ne k y (Ne.symm hjk) hy hb
      · rw [List.getElem?_eq_none (by simpa using hl)] at ha; cases ha
    · rw [List.getElem?_set_ne hj] at hx ha
      by_cases hk : i = k
      · subst hk
        by_cases hl : i < σ.length
        · rw [List.getElem?_set_self hl] at hb; cases hb
          exact ne j x hjk hx ha
        · rw [List.getElem?_eq_none (by simpa using hl)] at hb; cases hb
      · rw [List.getElem?_set_ne hk] at hy hb
        exact r.dist j k x y c hjk hx hy ha hb
def oOwn (i : Nat) (ml : En → Tree (List D)) : En → Tree Out := fun E => (ml E).bind fun ds => leaf (.nx (E.putOwn i (.lst ds)))
theorem ownIn {K : PySem.W.Frag} {F0 F : Fz} {H0 H : Hp} {σ : L2.St} {E : En} {D0 : Ends} {i : Nat} {ml : En → Tree (List D)} (e : Ext F0 H0 F H) (r : RelE K (B0 H0) F H σ E) (q : (oOwn i ml E).all (Post K F0 H0 F D0)) : tL K ml σ H fun v H1 => D0.nx (σ.set i (some v)) H1 := by
  refine ⟨B0 H0, F, E, e.good, r, Tree.all_mono (fun ds k a xs F' H' e' h n t h0 rp => ?_) (Tree.all_bind.mp q)⟩
  refine k _ F' H' (e.trans e') e'.le ((r.ext e').putOwn i h rp n t ?_ fun j d _ hj hs => ?_)
  · by_cases t0 : F0.T a
    · exact absurd (e'.monoT _ (e.monoT _ t0)) t
    · exact e.back h0 t0
  · obtain ⟨a', xs', ds', h1, _, h3, _⟩ := r.own j d hj
    rw [h1] at hs; cases hs
    obtain ⟨ps, z⟩ := h0 _ h3; cases z
theorem s_own {i : Nat} {te : TE} (h : PS X st (tAsg te (gName i))) {ml : En → Tree (List D)} (w : ∀ σ H Q, tL X.K ml σ H Q → te σ H Q) : SS X st (oOwn i ml) := ⟨PS.weak h fun D0 σ H ⟨F0, H0, F, E, e, r, q⟩ => w _ _ _ (ownIn e r q)⟩
/-- own lists are made still -/
def frz1 (i : Nat) (E : En) : En := match E[i]? with
  | some (some ⟨true, d⟩) => E.set i (some ⟨false, d⟩)
  | _ => E
theorem freeze1 {K : PySem.W.Frag} {F0 F : Fz} {H0 H : Hp} {σ : L2.St} {E : En} (i : Nat) (e : Ext F0 H0 F H) (r : RelE K (B0 H0) F H σ E) : ∃ F', Ext F0 H0 F' H ∧ F.Le F' ∧ RelE K (B0 H0) F' H σ (frz1 i E) := by
  unfold frz1
  split
  · rename_i d hd
    obtain ⟨a, xs, ds, h1, rfl, h3, h4, h5, h6, h7⟩ := r.own i d hd
    have le : F.Le (F.add a (.lst xs)) := Fz.le_add h5
    have e' : Ext F0 H0 (F.add a (.lst xs)) H := e.freeze h3 h5 h6 h7
    refine ⟨F.add a (.lst xs), e', le, ?_⟩
    have hi : i < E.length := (List.getElem?_eq_some_iff.mp hd).1
    have rp : Rep K (F.add a (.lst xs)) (.ref a) (.lst ds) := .lst upd_same (h4.mono le)
    refine ⟨by simp [r.len], fun j x hx => ?_, fun j x hx => ?_, fun j k x y c hjk hx hy ha hb => ?_⟩
    · by_cases hj : i = j
      · subst hj
        rw [List.getElem?_set_self hi] at hx; cases hx
        exact ⟨.ref a, h1, rp⟩
      · rw [List.getElem?_set_ne hj] at hx
        obtain ⟨v, g1, g2⟩ := r.val j x hx
        exact ⟨v, g1, g2.mono le⟩
    · by_cases hj : i = j
      · subst hj
        rw [List.getElem?_set_self hi] at hx; cases hx
      · rw [List.getElem?_set_ne hj] at hx
        obtain ⟨b, ys, es, g1, rfl, g3, g4, g5, g6, g7⟩ := r.own j x hx
        have nb : b ≠ a := fun z => by
          subst z
          exact r.dist i j _ _ b hj hd hx h1 g1
        exact ⟨b, ys, es, g1, rfl, g3, g4.mono le, by rw [show (F.add a (.lst xs)).P b = F.P b from upd_ne nb]; exact g5, g6, g7⟩
    · have nj : i ≠ j := fun z => by
        subst z; rw [List.getElem?_set_self hi] at hx; cases hx
      have nk : i ≠ k := fun z => by
        subst z; rw [List.getElem?_set_self hi] at hy; cases hy
      rw [List.getElem?_set_ne nj] at hx
      rw [List.getElem?_set_ne nk] at hy
      exact r.dist j k x y c hjk hx hy ha hb
  · exact ⟨F, e, Fz.Le.refl F, r⟩
def oFrz (i : Nat) (m : En → Tree Out) : En → Tree Out := fun E => m (frz1 i E)
theorem s_frz (i : Nat) (h : SS X st m) : SS X st (oFrz i m) := ⟨PS.weak h.ps fun D0 σ H ⟨F0, H0, F, E, e, r, q⟩ => by
  obtain ⟨F', e', l, r'⟩ := freeze1 i e r
  exact ⟨F0, H0, F', frz1 i E, e', r', Tree.all_mono (fun o h => h.le l) q⟩⟩
def oIf (c : En → Tree Bool) (m n : En → Tree Out) : En → Tree Out := fun E => (c E).bind fun b => if b = true then m E else n E
theorem s_if {c : Expr} {a b : List Stmt} {mc : En → Tree Bool} (hc : ST X c mc) (ha : SSs X a m) (hb : SSs X b n) : SS X (.If c a b pos) (oIf mc m n) := by
  refine ⟨PS.weak (ps_if hc.pt ha.ps hb.ps) fun D0 σ H ⟨F0, H0, F, E, e, r, q⟩ => ?_⟩
  refine ⟨B0 H0, F, E, e.good, r, Tree.all_mono (fun z k F' H' e' => ?_) (Tree.all_bind.mp q)⟩
  cases z with
  | true => exact ⟨F0, H0, F', E, e.trans e', r.ext e', Tree.all_mono (fun o h => h.le e'.le) k⟩
  | false => exact ⟨F0, H0, F', E, e.trans e', r.ext e', Tree.all_mono (fun o h => h.le e'.le) k⟩
/-- a, b = x, y -/
def oPar (i j : Nat) (ma : En → Tree (List D)) : En → Tree Out := fun E => (ma E).bind fun ds => match ds with
  | [d, e] => leaf (.nx ((E.put i d).put j e))
  | _ => fail
theorem s_par {i j : Nat} {ta : TA} {ma : En → Tree (List D)} (h : PS X st (tPar i j ta)) (w : ∀ σ H Q, tA X.K ma σ H Q → ta σ H Q) : SS X st (oPar i j ma) := by
  refine ⟨PS.weak h fun D0 σ H ⟨F0, H0, F, E, e, r, q⟩ => w _ _ _ ?_⟩
  refine ⟨B0 H0, F, E, e.good, r, Tree.all_mono (fun ds k vs F' H' e' p => ?_) (Tree.all_bind.mp q)⟩
  cases p with
  | nil => exact False.elim k
  | cons p1 p =>
    cases p with
    | nil => exact False.elim k
    | cons p2 p =>
      cases p with
      | nil => exact ⟨_, _, rfl, k _ F' H' (e.trans e') e'.le (((r.ext e').put i p1).put j p2)⟩
      | cons _ _ => exact False.elim k
/-! ### while, by fuel -/
def oWhile (c : En → Tree Bool) (m : En → Tree Out) : Nat → En → Tree Out
  | 0, _ => fail
  | f + 1, E => (c E).bind fun b => if b = true then (m E).bind fun o => match o with
      | .nx E' => oWhile c m f E'
      | .ct E' => oWhile c m f E'
      | .bk E' => leaf (.nx E')
      | .rt d => leaf (.rt d)
    else leaf (.nx E)
theorem s_while (fuel : Nat) {c : Expr} {b : List Stmt} {mc : En → Tree Bool} (h : ∀ {tc tb}, PT X c tc → PSs X b tb → PS X st (tWhile tc tb)) (hc : ST X c mc) (hb : SSs X b m) : SS X st (oWhile mc m fuel) := by
  refine ⟨PS.weak (h hc.pt hb.ps) fun D0 σ H ⟨F0, H0, F, E, e, r, q⟩ => ?_⟩
  refine ⟨fun n σ H => ∃ F E, Ext F0 H0 F H ∧ RelE X.K (B0 H0) F H σ E ∧ (oWhile mc m n E).all (Post X.K F0 H0 F D0), ⟨fuel, F, E, e, r, q⟩, ?_⟩
  rintro n σ H ⟨F, E, e, r, q⟩
  cases n with
  | zero => exact q.elim
  | succ n =>
    refine ⟨B0 H0, F, E, e.good, r, Tree.all_mono (fun z k F' H' e' => ?_) (Tree.all_bind.mp q)⟩
    cases z with
    | false => exact k σ F' H' (e.trans e') e'.le (r.ext e')
    | true =>
      refine ⟨_, fun σ' H' p => ⟨n, Nat.lt_succ_self n, p⟩, ?_⟩
      refine ⟨F0, H0, F', E, e.trans e', r.ext e', Tree.all_mono (fun o k => ?_) (Tree.all_bind.mp k)⟩
      cases o with
      | nx E' => exact fun σ2 F2 H2 e2 l2 r2 => ⟨F2, E', e2, r2, Tree.all_mono (fun o h => h.le (e'.le.trans l2)) k⟩
      | ct E' => exact fun σ2 F2 H2 e2 l2 r2 => ⟨F2, E', e2, r2, Tree.all_mono (fun o h => h.le (e'.le.trans l2)) k⟩
      | bk E' => exact fun σ2 F2 H2 e2 l2 r2 => k σ2 F2 H2 e2 (e'.le.trans l2) r2
      | rt d => exact fun v F2 H2 e2 l2 r2 => k v F2 H2 e2 (e'.le.trans l2) r2
end

/-! ### what is walked -/
/-- the items that an iterator yields, one by one, while all that is still stays -/
def Yld (K : PySem.W.Frag) (J : It) (A : Fz → Hp → Prop) (ds : List D) : Prop := ∀ F' H', A F' H' → Good F' H' → ∀ i, (∀ d, ds[i]? = some d → J.go i H' ∧ ∀ x H'', J.yld i H' x H'' → ∃ F'', Ext F' H' F'' H'' ∧ Rep K F'' x d) ∧ (ds.length ≤ i → J.stop i H')
structure SI (X : Cx) (tg iter : Expr) (m : En → Tree (List D)) : Prop where
  pi : ∃ wi, PI X tg iter wi ∧ ∀ σ H R, (∃ B F E, Good F H ∧ RelE X.K B F H σ E ∧ (m E).all fun ds => ∀ J F' H', Ext F H F' H' → Yld X.K J (fun F2 _ => F'.Le F2) ds → R J H') → wi σ H R
/-- .. where own lists are not changed in the meantime (a comprehension) -/
structure SIp (X : Cx) (tg iter : Expr) (m : En → Tree (List D)) : Prop where
  pi : ∃ wi, PI X tg iter wi ∧ ∀ σ H R, (∃ B F E, Good F H ∧ RelE X.K B F H σ E ∧ (m E).all fun ds => ∀ J F' H', Ext F H F' H' → Yld X.K J (fun F2 H2 => Ext F' H' F2 H2) ds → R J H') → wi σ H R
theorem SI.sip {X : Cx} {tg iter : Expr} {m : En → Tree (List D)} (h : SI X tg iter m) : SIp X tg iter m := by
  obtain ⟨wi, h1, h2⟩ := h.pi
  refine ⟨wi, h1, fun σ H R ⟨B, F, E, g, r, q⟩ => h2 σ H R ⟨B, F, E, g, r, Tree.all_mono (fun ds k J F' H' e y => k J F' H' e fun F2 H2 a g => y F2 H2 a.le g) q⟩⟩
/-- a target, by data -/
def But (js : List Nat) (σ σ' : L2.St) : Prop := σ'.length = σ.length ∧ ∀ j, j ∉ js → σ'[j]? = σ[j]?
def tG (K : PySem.W.Frag) (js : List Nat) (g : D → En → Tree En) : TG := fun v σ H Q => ∃ B F E d, Good F H ∧ RelE K B F H σ E ∧ Rep K F v d ∧ (g d E).all fun E' => ∀ σ', RelE K B F H σ' E' → But js σ σ' → Q σ' H
structure SG (X : Cx) (target : Expr) (js : List Nat) (g : D → En → Tree En) : Prop where
  pg : PG X target (tG X.K js g)
structure SGs (X : Cx) (ts : List Expr) (js : List Nat) (g : List D → En → Tree En) : Prop where
  pg : PGs X ts fun vs σ H Q => ∃ B F E ds, Good F H ∧ RelE X.K B F H σ E ∧ Reps X.K F vs ds ∧ (g ds E).all fun E' => ∀ σ', RelE X.K B F H σ' E' → But js σ σ' → Q σ' H
theorem But.mono {js ks : List Nat} {σ σ' : L2.St} (h : But js σ σ') (l : ∀ j ∈ js, j ∈ ks) : But ks σ σ' := ⟨h.1, fun j n => h.2 j fun m => n (l j m)⟩
theorem PG.weak {X : Cx} {e : Expr} {t t' : TG} (h : PG X e t) (w : ∀ v σ H Q, t' v σ H Q → t v σ H Q) : PG X e t' := ⟨fun pins s σ H v u Q I r q => h.run pins s σ H v u Q I r (w v σ H Q q)⟩
theorem PGs.weak {X : Cx} {e : List Expr} {t t' : TGs} (h : PGs X e t) (w : ∀ v σ H Q, t' v σ H Q → t v σ H Q) : PGs X e t' := ⟨fun pins s σ H v u Q I r q => h.run pins s σ H v u Q I r (w v σ H Q q)⟩
section
variable {X : Cx}
def gPut (i : Nat) : D → En → Tree En := fun d E => leaf (E.put i d)
theorem sg_name {i : Nat} {x : Str} {pos : Pos} (h : PG X (.Name x pos) (gName i)) : SG X (.Name x pos) [i] (gPut i) := ⟨PG.weak h fun v σ H Q ⟨B, F, E, d, g, r, p, q⟩ => q _ (r.put i p) ⟨by simp, fun j hj => List.getElem?_set_ne (fun z => hj (by rw [z]; exact List.mem_cons_self))⟩⟩
def gsNil : List D → En → Tree En := fun ds E => match ds with
  | [] => leaf E
  | _ => fail
def gsCons (g : D → En → Tree En) (h : List D → En → Tree En) : List D → En → Tree En := fun ds E => match ds with
  | d :: ds => (g d E).bind (h ds)
  | _ => fail
theorem sgs_nil : SGs X [] [] gsNil := ⟨PGs.weak pgs_nil fun vs σ H Q ⟨B, F, E, ds, g, r, p, q⟩ => by
  cases p with
  | nil => exact ⟨rfl, q σ r ⟨rfl, fun _ _ => rfl⟩⟩
  | cons _ _ => exact q.elim⟩
theorem sgs_cons {e : Expr} {es : List Expr} {g : D → En → Tree En} {h : List D → En → Tree En} {js ks : List Nat} (h1 : SG X e js g) (h2 : SGs X es ks h)
    (hs : (assignEach (e :: es) X.env).map (·.2) = assign e X.env :: (assignEach es X.env).map (·.2) := by rfl) : SGs X (e :: es) (js ++ ks) (gsCons g h) := ⟨PGs.weak (pgs_cons h1.pg h2.pg hs) fun vs σ H Q ⟨B, F, E, ds, gd, r, p, q⟩ => by
  cases p with
  | nil => exact q.elim
  | cons p ps => exact ⟨_, _, rfl, B, F, E, _, gd, r, p, Tree.all_mono (fun E' k σ' r' b' => ⟨B, F, E', _, gd, r', ps, Tree.all_mono (fun E2 k2 σ2 r2 b2 => k2 σ2 r2 ⟨b2.1.trans b'.1, fun j hj => (b2.2 j fun m => hj (List.mem_append_right _ m)).trans (b'.2 j fun m => hj (List.mem_append_left _ m))⟩) k⟩) (Tree.all_bind.mp q)⟩⟩
def gTp (n : Nat) (g : List D → En → Tree En) : D → En → Tree En := fun d E => match d with
  | .tup ds => if ds.length = n then g ds E else fail
  | _ => fail
theorem sg_tup {es : List Expr} {k : Nat} {pos : Pos} {g : List D → En → Tree En} {n : Nat} {js : List Nat} (hc : X.calm = true) (h : SGs X es js g) (hn : (assignEach es X.env).length = n := by rfl) (hst : (assignEach es X.env).findIdx? (·.1) = none := by rfl) : SG X (.Tuple es k pos) js (gTp n g) := ⟨PG.weak (pg_tup hc h.pg hn hst) fun v σ H Q ⟨B, F, E, d, gd, r, p, q⟩ => by
  cases d with
  | tup ds =>
    cases p with
    | tup hs rs =>
      have q : (if ds.length = n then g ds E else fail).all _ := q
      split at q
      · rename_i hl
        exact ⟨_, _, rfl, sqT_same gd.sub hs.sq, by rw [rs.length]; exact hl, B, F, E, ds, gd, r, rs, q⟩
      · exact q.elim
  | _ => exact False.elim q⟩
/-- target = value, any target -/
def oAsg (me : En → Tree D) (g : D → En → Tree En) : En → Tree Out := fun E => (me E).bind fun d => (g d E).bind fun E' => leaf (.nx E')
theorem s_asgG {st : Stmt} {te : TE} {tg : TG} {me : En → Tree D} {g : D → En → Tree En} {js : List Nat} (h : PS X st (tAsg te tg)) (w : ∀ σ H Q, tE X.K me σ H Q → te σ H Q) (wg : ∀ v σ H Q, tG X.K js g v σ H Q → tg v σ H Q) : SS X st (oAsg me g) := ⟨PS.weak h fun D0 σ H ⟨F0, H0, F, E, e, r, q⟩ =>
  w _ _ _ (exprIn e r (Tree.all_mono (fun d k v F' H' e' l r' p => wg _ _ _ _ ⟨B0 H0, F', E, d, e'.good, r', p, Tree.all_mono (fun E' k σ' r2 _ => k σ' F' H' e' l r2) (Tree.all_bind.mp k)⟩) (Tree.all_bind.mp q)))⟩

/-! ### for -/
def oLoop (g : D → En → Tree En) (m : En → Tree Out) : List D → En → Tree Out
  | [], E => leaf (.nx E)
  | d :: ds, E => (g d E).bind fun E' => (m E').bind fun o => match o with
      | .nx E'' => oLoop g m ds E''
      | .ct E'' => oLoop g m ds E''
      | .bk E'' => leaf (.nx E'')
      | .rt d => leaf (.rt d)
def oFor (mi : En → Tree (List D)) (g : D → En → Tree En) (m : En → Tree Out) : En → Tree Out := fun E => (mi E).bind fun ds => oLoop g m ds E
theorem s_for {tg iter : Expr} {body : List Stmt} {pos : Pos} {mi : En → Tree (List D)} {g : D → En → Tree En} {m : En → Tree Out} (hp : PassesOwn (model X.prog X.w) X.A X.env X.xe) (hc : X.calm = true) {js : List Nat} (hi : SI X tg iter mi) (hg : SG X tg js g) (hb : SSs X body m)
    (hs : ∀ x, foldedSetIterable iter X.env x = pure x := by intro _; rfl) : SS X (.For tg iter body [] pos) (oFor mi g m) := by
  obtain ⟨wi, h1, h2⟩ := hi.pi
  refine ⟨PS.weak (ps_for hp hc h1 hg.pg hb.ps hs) fun D0 σ H ⟨F0, H0, F, E, e, r, q⟩ => h2 σ H _ ?_⟩
  refine ⟨B0 H0, F, E, e.good, r, Tree.all_mono (fun ds k J F1 H1 e1 y => ?_) (Tree.all_bind.mp q)⟩
  refine ⟨fun i n σ H => n = ds.length - i ∧ ∃ F2 E, Ext F0 H0 F2 H ∧ F1.Le F2 ∧ RelE X.K (B0 H0) F2 H σ E ∧ (oLoop g m (ds.drop i) E).all (Post X.K F0 H0 F2 D0), ⟨ds.length, rfl, F1, E, e.trans e1, Fz.Le.refl _, r.ext e1, Tree.all_mono (fun o h => h.le e1.le) k⟩, ?_⟩
  rintro i n σ H ⟨rfl, F2, E, e2, l2, r2, q2⟩
  obtain ⟨y1, y2⟩ := y F2 H l2 e2.good i
  by_cases hi : i < ds.length
  · have hd : ds[i]? = some ds[i] := List.getElem?_eq_getElem hi
    obtain ⟨go, yl⟩ := y1 _ hd
    rw [List.drop_eq_getElem_cons hi] at q2
    refine .inr ⟨go, fun σ H => ∃ F2 E, Ext F0 H0 F2 H ∧ F1.Le F2 ∧ RelE X.K (B0 H0) F2 H σ E ∧ (oLoop g m (ds.drop (i + 1)) E).all (Post X.K F0 H0 F2 D0), fun σ' H' p => ⟨ds.length - (i + 1), by omega, rfl, p⟩, fun x H' yx => ?_⟩
    obtain ⟨F3, e3, rx⟩ := yl x H' yx
    refine ⟨B0 H0, F3, E, ds[i], e3.good, r2.ext e3, rx, Tree.all_mono (fun E' k σ' r' _ => ?_) (Tree.all_bind.mp q2)⟩
    refine ⟨F0, H0, F3, E', e2.trans e3, r', Tree.all_mono (fun o k => ?_) (Tree.all_bind.mp k)⟩
    have l3 : F2.Le F3 := e3.le
    cases o with
    | nx E'' => exact fun σ4 F4 H4 e4 l4 r4 => ⟨F4, E'', e4, l2.trans (l3.trans l4), r4, Tree.all_mono (fun o h => h.le (l3.trans l4)) k⟩
    | ct E'' => exact fun σ4 F4 H4 e4 l4 r4 => ⟨F4, E'', e4, l2.trans (l3.trans l4), r4, Tree.all_mono (fun o h => h.le (l3.trans l4)) k⟩
    | bk E'' => exact fun σ4 F4 H4 e4 l4 r4 => k σ4 F4 H4 e4 (l3.trans l4) r4
    | rt d => exact fun v F4 H4 e4 l4 r4 => k v F4 H4 e4 (l3.trans l4) r4
  · refine .inl ⟨y2 (by omega), ?_⟩
    rw [List.drop_eq_nil_of_le (by omega)] at q2
    exact q2 σ F2 H e2 (Fz.Le.refl _) r2
end

/-! ### a def -/
def En.start (n : Nat) (ds : List D) : En := ds.map (fun d => some ⟨false, d⟩) ++ List.replicate (n - ds.length) none
/-- np parameters, n names -/
def mDef (np n : Nat) (m : En → Tree Out) : List D → Tree D := fun ds => if ds.length = np then (m (En.start n ds)).bind fun o => match o with
    | .nx _ => leaf .non
    | .rt d => leaf d
    | _ => fail
  else fail
theorem rel_start {K : PySem.W.Frag} {B : Addr → Prop} {F : Fz} {H : Hp} {vs : List V} {ds : List D} (r : Reps K F vs ds) (N : List Str) : RelE K B F H (L2.start N vs) (En.start N.length ds) where
  len := by unfold L2.start En.start; simp [r.length]
  val := fun i d h => by
    unfold En.start at h
    unfold L2.start
    by_cases hi : i < ds.length
    · rw [List.getElem?_append_left (by simpa using hi), List.getElem?_map] at h
      cases e : ds[i]? with
      | none => rw [e] at h; cases h
      | some d' =>
        rw [e] at h; cases h
        obtain ⟨v, h1, h2⟩ := r.get' e
        refine ⟨v, ?_, h2⟩
        rw [List.getElem?_append_left (by rw [List.length_map, r.length]; exact hi), List.getElem?_map, h1]
        rfl
    · rw [List.getElem?_append_right (by simpa using hi), List.getElem?_replicate] at h
      split at h <;> cases h
  own := fun i d h => by
    unfold En.start at h
    by_cases hi : i < ds.length
    · rw [List.getElem?_append_left (by simpa using hi), List.getElem?_map] at h
      cases e : ds[i]? with
      | none => rw [e] at h; cases h
      | some d' => rw [e] at h; cases h
    · rw [List.getElem?_append_right (by simpa using hi), List.getElem?_replicate] at h
      split at h <;> cases h
  dist := fun i j d e a _ h => by
    unfold En.start at h
    by_cases hi : i < ds.length
    · rw [List.getElem?_append_left (by simpa using hi), List.getElem?_map] at h
      cases e : ds[i]? with
      | none => rw [e] at h; cases h
      | some d' => rw [e] at h; cases h
    · rw [List.getElem?_append_right (by simpa using hi), List.getElem?_replicate] at h
      split at h <;> cases h
/-- what a def promises: its plain function -/
def spF (K : PySem.W.Frag) (f : List D → Tree D) : Sp := fun vs H Q _ => ∃ F ds, Good F H ∧ Reps K F vs ds ∧ (f ds).all fun d => ∀ v F' H', Ext F H F' H' → Rep K F' v d → Q v H'
theorem spF_len {K : PySem.W.Frag} {np n : Nat} {m : En → Tree Out} : ∀ vs H Q E, spF K (mDef np n m) vs H Q E → vs.length = np := fun vs H Q E ⟨F, ds, g, r, q⟩ => by
  unfold mDef at q
  split at q
  · rename_i h; rw [r.length]; exact h
  · exact q.elim
section
variable {P : Program} {w : World} {K : PySem.W.Frag} {mg : Str → Option Value} {base : Heap}
theorem def_ok {x qual : Str} {st : Stmt} {f : Addr} {fd : FuncData} {N ps : List Str} {k : Nat} {m : En → Tree Out} (np n : Nat) (F : Fun K x qual st f fd) (S : FnScope N ps (defScope st)) (hn : N.length = n) (hp : ps.length = np)
    (hbody : ∀ (cdv : Value) (A : Around) (outer : List Env) (s : Shared) (H : Hp) (E : XK), Room k (A.deeper (envOfC qual (defScope st) s.heap.objs.size f cdv)) →
      SSs (cxOf CX0 P w K mg base N qual (defScope st) f cdv A outer s H E).nox (defBody st) m) : FnOk P w K mg base CX0 (k + 1) f fd ps (spF K (mDef np n m)) := by
  subst hn hp
  refine F.ok S (fun vs H Q E h => spF_len vs H Q E h) (fun cdv A outer s H vs Q E hr h => ?_)
  obtain ⟨F, ds, g, r, q⟩ := h
  refine ⟨_, (hbody cdv A outer s H E hr).ps, F, H, F, En.start N.length ds, Ext.refl g, rel_start r N, ?_⟩
  unfold mDef at q
  split at q
  · refine Tree.all_mono (fun o k => ?_) (Tree.all_bind.mp q)
    cases o with
    | nx E => exact fun σ' F' H' e l r => k .non F' H' e .non
    | rt d => exact fun v F' H' e l r => k v F' H' e r
    | bk E => exact False.elim k
    | ct E => exact False.elim k
  · exact q.elim
end
section
variable {X : Cx} {k : Nat} {f : Addr} {fd : FuncData} {ps : List Str} {fn : List D → Tree D} {x : Str} {p pos : Pos} {e : Expr} {es : List Expr} {ma : En → Tree (List D)}
theorem se_call (F : FnOk X.prog X.w X.K X.mg X.base CX0 k f fd ps (spF X.K fn)) (hr : Room k X.A) (hg : Gl X x) (hm : X.mg x = some (.ref f)) (hk : PySem.W.keepIn X.K (.ref f) = true) (hb : Binds X.K fd ps [])
    (ha : SA X (e :: es) ma) (hdb : (x == ("__debug__" : Str)) = false := by decide) (he : starEach (e :: es) X.env = (false, eval e X.env) :: starEach es X.env := by rfl) (hpl : (backTo pos (starEach es X.env)).any (·.1) = false := by rfl) :
    SE X (.Call (.Name x p) (e :: es) [] pos) (mA fn ma) := by
  refine ⟨PE.weak (pe_call F hr hg hm hk hb .nil pass0 ha.pa hdb he hpl) fun σ H Q ⟨B, F, E, g, rl, q⟩ => ?_⟩
  refine ⟨B, F, E, g, rl, Tree.all_mono (fun ds k vs F1 H1 e1 p1 => ?_) (Tree.all_bind.mp q)⟩
  show spF X.K fn (vs ++ []) H1 Q E0
  rw [List.append_nil]
  exact ⟨F1, ds, e1.good, p1, Tree.all_mono (fun z kz w F2 H2 e2 rz => kz w F2 H2 (e1.trans e2) rz) k⟩
end
end R

set_option Elab.async false
set_option linter.all false
set_option maxRecDepth 100000
namespace R
open PySem PySem.Spec PyProof.Rows L2
open Tree (leaf fail)
/-! ### comprehensions -/
def wipeE (E : En) : List Nat → En
  | [] => E
  | v :: vs => (wipeE E vs).set v none
theorem RelE.wipe {K : PySem.W.Frag} {B : Addr → Prop} {F : Fz} {H : Hp} {σ : L2.St} {E : En} (r : RelE K B F H σ E) : ∀ vs : List Nat, RelE K B F H (L2.wipe σ vs) (wipeE E vs)
  | [] => r
  | v :: vs => (RelE.wipe r vs).drop v none
theorem wipe_in {σ : L2.St} {i : Nat} : ∀ {vs : List Nat}, i ∈ vs → i < σ.length → (L2.wipe σ vs)[i]? = some none
  | v :: vs, h, hl => by
    unfold L2.wipe
    by_cases e : v = i
    · subst e; exact List.getElem?_set_self (by rw [wipe_length]; exact hl)
    · rw [List.getElem?_set_ne e]
      rcases List.mem_cons.mp h with z | z
      · exact absurd z.symm e
      · exact wipe_in z hl
theorem wipe_but {σ σ' : L2.St} {vs : List Nat} (h : But vs σ σ') : L2.wipe σ' vs = L2.wipe σ vs := by
  have hl := h.1
  refine List.ext_getElem? fun i => ?_
  by_cases m : i ∈ vs
  · by_cases q : i < σ.length
    · rw [wipe_in m q, wipe_in m (by omega)]
    · rw [List.getElem?_eq_none (by rw [wipe_length]; omega), List.getElem?_eq_none (by rw [wipe_length]; omega)]
  · rw [wipe_out m, wipe_out m]; exact h.2 i m
theorem wipe_wipe {σ : L2.St} {vs : List Nat} : L2.wipe (L2.wipe σ vs) vs = L2.wipe σ vs := wipe_but ⟨wipe_length σ vs, fun i m => wipe_out m⟩
def lcLoop (g : D → En → Tree En) (mt : En → Tree Bool) (me : En → Tree D) (E : En) : List D → Tree (List D)
  | [] => leaf []
  | d :: ds => (g d E).bind fun E' => (mt E').bind fun b => if b = true then (me E').bind fun y => (lcLoop g mt me E ds).bind fun r => leaf (y :: r) else lcLoop g mt me E ds
def mLc (mi : En → Tree (List D)) (vs : List Nat) (g : D → En → Tree En) (mt : En → Tree Bool) (me : En → Tree D) : En → Tree (List D) := fun E => (mi E).bind fun ds => lineOk ds.length (lcLoop g mt me (wipeE E vs) ds)
/-- a clause's tests -/
structure STs (X : Cx) (ifs : List Expr) (m : En → Tree Bool) : Prop where
  pts : PTs X ifs (tT X.K m)
def tYesM : En → Tree Bool := fun _ => leaf true
section
variable {X : Cx}
theorem PTs.weak {es : List Expr} {t t' : TT} (h : PTs X es t) (w : ∀ σ H Q, t' σ H Q → t σ H Q) : PTs X es t' := ⟨fun pins s σ H Q I q => h.run pins s σ H Q I (w σ H Q q)⟩
theorem sts_nil : STs X [] tYesM := ⟨PTs.weak pts_nil fun σ H Q ⟨B, F, E, g, r, q⟩ => q F H (Ext.refl g)⟩
theorem sts_one {c : Expr} {m : En → Tree Bool} (h : ST X c m) : STs X [c] m := ⟨pts_one h.pt⟩
theorem lc_w {K : PySem.W.Frag} {wi : TI} {mi : En → Tree (List D)} {js vs : List Nat} {g : D → En → Tree En} {mt : En → Tree Bool} {me : En → Tree D} {σ : L2.St} {H : Hp} {Q : VK}
    (h2 : ∀ σ H R, (∃ B F E, Good F H ∧ RelE K B F H σ E ∧ (mi E).all fun ds => ∀ J F' H', Ext F H F' H' → Yld K J (fun F2 H2 => Ext F' H' F2 H2) ds → R J H') → wi σ H R) (hj : ∀ j ∈ js, j ∈ vs)
    (h : tL K (mLc mi vs g mt me) σ H Q) : tLc wi (tG K js g) (tT K mt) (tE K me) vs σ H Q := by
  obtain ⟨B, F, E, gd, rl, q⟩ := h
  refine h2 σ H _ ⟨B, F, E, gd, rl, Tree.all_mono (fun ds k J F1 H1 e1 y => ?_) (Tree.all_bind.mp q)⟩
  obtain ⟨hz, k⟩ := lineOk_all k
  intro L hL
  -- the new list
  have g1 : Good F1 (upd H1 L (.lst [])) := e1.good.new hL
  have n1 := e1.good.free hL
  have e2 : Ext F1 H1 F1 (upd H1 L (.lst [])) := Ext.new e1.good hL
  refine ⟨fun i n H' => n = ds.length - i ∧ ∃ F' acc xs, Ext F1 H1 F' H' ∧ H' L = some (.lst xs) ∧ F'.P L = none ∧ ¬ F'.T L ∧ Reps K F' xs acc ∧ acc.length ≤ i ∧
    ((lcLoop g mt me (wipeE E vs) (ds.drop i)).all fun r => ∀ a xs F'' H'', Ext F H F'' H'' → H'' a = some (.lst xs) → F''.P a = none → ¬ F''.T a → NT H a → Reps K F'' xs (acc ++ r) → Q (.ref a) H''),
    ⟨ds.length, rfl, F1, [], [], e2, upd_same, n1.1, n1.2, .nil, Nat.zero_le _, k⟩, ?_⟩
  rintro i n H' ⟨rfl, F', acc, xs, e', hL', np, nt, ra, hai, q'⟩
  obtain ⟨y1, y2⟩ := y F' H' e' e'.good i
  have h0 : NT H L := ext_none gd e1 hL
  by_cases hi : i < ds.length
  · have hd : ds[i]? = some ds[i] := List.getElem?_eq_getElem hi
    obtain ⟨go, yl⟩ := y1 _ hd
    rw [List.drop_eq_getElem_cons hi] at q'
    refine .inr ⟨go, fun H3 => ∃ F' acc xs, Ext F1 H1 F' H3 ∧ H3 L = some (.lst xs) ∧ F'.P L = none ∧ ¬ F'.T L ∧ Reps K F' xs acc ∧ acc.length ≤ i + 1 ∧
      ((lcLoop g mt me (wipeE E vs) (ds.drop (i + 1))).all fun r => ∀ a xs F'' H'', Ext F H F'' H'' → H'' a = some (.lst xs) → F''.P a = none → ¬ F''.T a → NT H a → Reps K F'' xs (acc ++ r) → Q (.ref a) H''),
      fun H3 p => ⟨ds.length - (i + 1), by omega, rfl, p⟩, fun x H3 yx => ?_⟩
    obtain ⟨F3, e3, rx⟩ := yl x H3 yx
    have er := (e1.trans e').trans e3
    obtain ⟨hL3, np3, nt3⟩ := own_ext e3 hL' np nt
    refine ⟨B, F3, wipeE E vs, ds[i], e3.good, (rl.ext er).wipe vs, rx, Tree.all_mono (fun E' k σ' r' b' => ?_) (Tree.all_bind.mp q')⟩
    have hw : L2.wipe σ' vs = L2.wipe σ vs := by
      rw [wipe_but (b'.mono hj)]
      exact wipe_wipe
    refine ⟨hw, B, F3, E', e3.good, r', Tree.all_mono (fun b k F4 H4 e4 => ?_) (Tree.all_bind.mp k)⟩
    obtain ⟨hL4, np4, nt4⟩ := own_ext e4 hL3 np3 nt3
    cases b with
    | false =>
      rw [if_neg Bool.false_ne_true] at k ⊢
      exact ⟨F4, acc, xs, (e'.trans e3).trans e4, hL4, np4, nt4, ra.mono (e3.le.trans e4.le), by omega, k⟩
    | true =>
      rw [if_pos rfl] at k ⊢
      refine ⟨B, F4, E', e4.good, r'.ext e4, Tree.all_mono (fun d k y F5 H5 e5 ry => ?_) (Tree.all_bind.mp k)⟩
      obtain ⟨hL5, np5, nt5⟩ := own_ext e5 hL4 np4 nt4
      refine ⟨xs, hL5, by rw [ra.length]; omega, F5, acc ++ [d], xs ++ [y], (((e'.trans e3).trans e4).trans e5).write np5 nt5 (.none hL) ⟨_, hL5⟩, upd_same, np5, nt5, (ra.mono ((e3.le.trans e4.le).trans e5.le)).append (.cons ry .nil), by rw [List.length_append]; show acc.length + 1 ≤ i + 1; omega, ?_⟩
      refine Tree.all_mono (fun r k => ?_) (Tree.all_bind.mp k)
      intro a zs F'' H'' e'' z1 z2 z3 z4 z5
      exact k a zs F'' H'' e'' z1 z2 z3 z4 (by rw [List.append_assoc] at z5; exact z5)
  · refine .inl ⟨y2 (by omega), ?_⟩
    rw [List.drop_eq_nil_of_le (by omega)] at q'
    have q' := q' L xs F' H' (e1.trans e') hL' np nt h0
    rw [List.append_nil] at q'
    exact q' ra
/-- [elt for tg in iter if ..] -/
theorem sl_lc {elt tg iter : Expr} {ifs : List Expr} {scope : Scope} {own : List (Str × Nat)} {pos : Pos} {mi : En → Tree (List D)} {js : List Nat} {g : D → En → Tree En} {mt : En → Tree Bool} {me : En → Tree D}
    (hc : X.calm = true) (hN : X.N.Nodup) (hi : SIp X tg iter mi) (ok : BlkOk X.N X.env.scope scope own)
    (hg : ∀ (s : Shared) (H : Hp) (C : Addr) (cl : List (Str × Addr)) (fp : List Addr), SG (X.blk s H scope (compEnvC scope cl C X.env) fp) tg js g) (ht : ∀ (s : Shared) (H : Hp) (C : Addr) (cl : List (Str × Addr)) (fp : List Addr), STs (X.blk s H scope (compEnvC scope cl C X.env) fp) ifs mt)
    (he : ∀ (s : Shared) (H : Hp) (C : Addr) (cl : List (Str × Addr)) (fp : List Addr), SE (X.blk s H scope (compEnvC scope cl C X.env) fp) elt me) (hj : ∀ j ∈ js, j ∈ own.map (·.2)) (hs : ∀ x, foldedSetIterable iter X.env x = pure x := by intro _; rfl) :
    SL X (.ListComp elt [⟨tg, iter, ifs, 0⟩] scope pos) (mLc mi (own.map (·.2)) g mt me) := by
  obtain ⟨wi, h1, h2⟩ := hi.pi
  exact ⟨PE.weak (pe_lc hc hN h1 ok (fun s H C cl fp => (hg s H C cl fp).pg) (fun s H C cl fp => (ht s H C cl fp).pts) (fun s H C cl fp => (he s H C cl fp).pe) hs) fun σ H Q h => lc_w h2 hj h⟩
/-- name = [..] on one line -/
theorem ps_lc {i : Nat} {y : Str} {py : Pos} {elt tg iter : Expr} {ifs : List Expr} {scope : Scope} {own : List (Str × Nat)} {pos spos : Pos} {mi : En → Tree (List D)} {js : List Nat} {g : D → En → Tree En} {mt : En → Tree Bool} {me : En → Tree D}
    (hc : X.calm = true) (hN : X.N.Nodup) (hy : X.N[i]? = some y) (hyl : X.env.scope.names.lookup y = some .local)
    (hsw : swapsWith (.ListComp elt [⟨tg, iter, ifs, 0⟩] scope pos) (some (.Name y py)) spos.line X.env = pure true) (hi : SIp X tg iter mi) (ok : BlkOk X.N X.env.scope scope own)
    (hg : ∀ (s : Shared) (H : Hp) (C : Addr) (cl : List (Str × Addr)) (fp : List Addr), SG (X.blk s H scope (compEnvC scope cl C X.env) fp) tg js g) (ht : ∀ (s : Shared) (H : Hp) (C : Addr) (cl : List (Str × Addr)) (fp : List Addr), STs (X.blk s H scope (compEnvC scope cl C X.env) fp) ifs mt)
    (he : ∀ (s : Shared) (H : Hp) (C : Addr) (cl : List (Str × Addr)) (fp : List Addr), SE (X.blk s H scope (compEnvC scope cl C X.env) fp) elt me) (hj : ∀ j ∈ js, j ∈ own.map (·.2)) (hs : ∀ x, foldedSetIterable iter X.env x = pure x := by intro _; rfl) :
    ∃ te, PS X (.Assign [.Name y py] (.ListComp elt [⟨tg, iter, ifs, 0⟩] scope pos) spos) (tAsg te (gName i)) ∧ ∀ σ H Q, tL X.K (mLc mi (own.map (·.2)) g mt me) σ H Q → te σ H Q := by
  obtain ⟨wi, h1, h2⟩ := hi.pi
  exact ⟨_, ps_setLc hc hN hy hyl hsw h1 ok (fun s H C cl fp => (hg s H C cl fp).pg) (fun s H C cl fp => (ht s H C cl fp).pts) (fun s H C cl fp => (he s H C cl fp).pe) hs, fun σ H Q h => lc_w h2 hj h⟩
theorem tL_of_E {K : PySem.W.Frag} {ml : En → Tree (List D)} {σ : L2.St} {H : Hp} {Q : VK} (h : tE K (mList ml) σ H Q) : tL K ml σ H Q := by
  obtain ⟨B, F, E, g, r, q⟩ := h
  exact ⟨B, F, E, g, r, Tree.all_mono (fun ds k a xs F' H' e h' n t h0 rp => k (.ref a) (F'.add a (.lst xs)) H' (e.freeze h' n t h0) (.lst upd_same (rp.mono (Fz.le_add n)))) (Tree.all_bind.mp q)⟩
theorem s_ownLc {st : Stmt} {i : Nat} {ml : En → Tree (List D)} (h : ∃ te, PS X st (tAsg te (gName i)) ∧ ∀ σ H Q, tL X.K ml σ H Q → te σ H Q) : SS X st (oOwn i ml) := by
  obtain ⟨te, h1, h2⟩ := h
  exact s_own h1 h2
theorem s_setLc {st : Stmt} {i : Nat} {ml : En → Tree (List D)} (h : ∃ te, PS X st (tAsg te (gName i)) ∧ ∀ σ H Q, tL X.K ml σ H Q → te σ H Q) : SS X st (oSet i (mList ml)) := by
  obtain ⟨te, h1, h2⟩ := h
  exact s_asg h1 fun σ H Q h => h2 σ H Q (tL_of_E h)
end
end R

set_option Elab.async false
set_option linter.all false
set_option maxRecDepth 100000
namespace R
open PySem PySem.Spec PyProof.Rows L2
open Tree (leaf fail)
theorem OpR.or {X : Cx} {f : Value → Value → Sem Value} {r r' : R2} (h : OpR X f r) (h' : OpR X f r') : OpR X f (fun x y H Q => r x y H Q ∨ r' x y H Q) := by
  intro pins s σ H x y v u Q I rx ry q
  rcases q with q | q
  · exact h pins s σ H x y v u Q I rx ry q
  · exact h' pins s σ H x y v u Q I rx ry q
section
variable {X : Cx} {K : PySem.W.Frag}

/-! ### + -/
def opAdd : D → D → Tree D
  | .int i, .int j => leaf (.int (i + j))
  | .lst xs, .lst ys => lineOk (xs.length + ys.length) (leaf (.lst (xs ++ ys)))
  | .tup xs, .tup ys => lineOk (xs.length + ys.length) (leaf (.tup (xs ++ ys)))
  | .str x, .str y => lineOk (x.length + y.length) (leaf (.str (x ++ y)))
  | _, _ => fail
def rStrAdd : R2 := fun x y H Q => ∃ i j, x = .str i ∧ y = .str j ∧ i.length + j.length ≤ sizeLine ∧ Q (.str (i ++ j)) H
def rAddAll (K : PySem.W.Frag) : R2 := fun x y H Q => rI0 (fun i j => .int (i + j)) x y H Q ∨ rCat x y H Q ∨ rCatA K x y H Q ∨ rStrAdd x y H Q
theorem or_add : OpR X (binaryOp .Add) (rAddAll X.K) := OpR.or op_add (OpR.or op_cat (OpR.or op_catA op_add_str))
theorem o2_add : Op2 K (rAddAll K) opAdd := by
  intro F H v u d e Q g p1 p2 q
  unfold opAdd at q
  split at q
  · cases p1.int; cases p2.int
    exact .inl ⟨_, _, rfl, rfl, q _ F H (Ext.refl g) (.int _)⟩
  · obtain ⟨hl, q⟩ := lineOk_all q
    obtain ⟨a, xs, rfl, h1, r1⟩ := p1.lst g
    obtain ⟨b, ys, rfl, h2, r2⟩ := p2.lst g
    refine .inr (.inl ⟨a, b, xs, ys, rfl, rfl, h1, h2, by rw [r1.length, r2.length]; exact hl, fun p hp => ?_⟩)
    exact q _ (F.add p (.lst (xs ++ ys))) _ (Ext.addNew g hp) (.lst upd_same ((r1.append r2).mono (Fz.le_add (g.free hp).1)))
  · obtain ⟨hl, q⟩ := lineOk_all q
    obtain ⟨a, xs, rfl, h1, r1⟩ := p1.tup g
    obtain ⟨b, ys, rfl, h2, r2⟩ := p2.tup g
    have n1 : ∀ {c : Addr} {zs : List V} {ds : List D}, Pk K F H (.ref c) (.tup ds) → Rep K F (.ref c) (.tup ds) := fun {c zs ds} h => by cases h with | rep r => exact r
    refine .inr (.inr (.inl ⟨a, b, xs, ys, rfl, rfl, h1, h2, by rw [r1.length, r2.length]; exact hl, fun ex => ?_, fun ex ey => ?_, fun ex ey p hp => ?_⟩))
    · subst ex; cases r1
      exact q _ F H (Ext.refl g) (n1 (zs := []) p2)
    · subst ey; cases r2
      rw [List.append_nil] at q
      exact q _ F H (Ext.refl g) (n1 (zs := []) p1)
    · exact q _ (F.add p (.tup (xs ++ ys))) _ (Ext.addNew g hp) (.tup (.of upd_same) ((r1.append r2).mono (Fz.le_add (g.free hp).1)))
  · obtain ⟨hl, q⟩ := lineOk_all q
    cases p1.str; cases p2.str
    exact .inr (.inr (.inr ⟨_, _, rfl, rfl, hl, q _ F H (Ext.refl g) (.str _)⟩))
  · exact q.elim

/-! ### ints -/
def opI (c : Int → Int → Bool) (f : Int → Int → Int) : D → D → Tree D
  | .int i, .int j => if c i j = true then leaf (.int (f i j)) else fail
  | _, _ => fail
theorem o2_int {C : Int → Int → Prop} {c : Int → Int → Bool} {f : Int → Int → Int} (h : ∀ i j, c i j = true → C i j) : Op2 K (rI C fun i j => .int (f i j)) (opI c f) := by
  intro F H v u d e Q g p1 p2 q
  unfold opI at q
  split at q
  · split at q
    · cases p1.int; cases p2.int
      exact ⟨_, _, rfl, rfl, h _ _ (by assumption), q _ F H (Ext.refl g) (.int _)⟩
    · exact q.elim
  · exact q.elim
def opSub : D → D → Tree D
  | .int i, .int j => leaf (.int (i - j))
  | _, _ => fail
theorem o2_sub : Op2 K (rI0 fun i j => .int (i - j)) opSub := by
  intro F H v u d e Q g p1 p2 q
  unfold opSub at q
  split at q
  · cases p1.int; cases p2.int
    exact ⟨_, _, rfl, rfl, q _ F H (Ext.refl g) (.int _)⟩
  · exact q.elim
def mulB (i j : Int) : Bool := decide (i.natAbs.log2 + j.natAbs.log2 < 1000000)
def divB (i j : Int) : Bool := decide (0 < j) && decide (j.natAbs.log2 < 9000)
def powB (i j : Int) : Bool := decide (0 ≤ j) && decide (j ≤ 1000000) && decide (i.natAbs < 2 ^ 64)
def opDiv : D → D → Tree D := opI divB fun i j => i / j
def opMod : D → D → Tree D := opI (fun _ j => decide (0 < j)) fun i j => i % j
def opPow : D → D → Tree D := opI powB fun i j => i ^ j.toNat
theorem o2_div : Op2 K (rI CDivW fun i j => .int (i / j)) opDiv := o2_int fun i j h => by
  unfold divB at h
  rw [Bool.and_eq_true, decide_eq_true_eq, decide_eq_true_eq] at h
  exact h
theorem o2_mod : Op2 K (rI (fun _ j => 0 < j) fun i j => .int (i % j)) opMod := o2_int fun i j h => by simpa using h
theorem o2_pow : Op2 K (rI CPow fun i j => .int (i ^ j.toNat)) opPow := o2_int fun i j h => by
  unfold powB at h
  simp only [Bool.and_eq_true, decide_eq_true_eq] at h
  exact ⟨h.1.1, h.1.2, h.2⟩

/-! ### * -/
def repOk (n : Nat) (k : Int) : Bool := decide (-(2 ^ 63) ≤ k) && decide (k < 2 ^ 63) && decide (n * k.toNat ≤ sizeLine)
/-- t * 1 is t -/
theorem tuple_mul1 (l : Addr) (items : Array Value) (n : Nat) (dd : Option Addr) (sl : Array (Option Value)) (u : Tok) :
    Meets (Builtin.«tuple.__mul__» ⟨[.ref l, .int 1 u], []⟩) (fun _ R s => s.heap.get? l = some { cls := .type "tuple", dict := dd, data := .seq items n, slots := sl } ∧ R (.ok (.ret (Value.ref l))) s) :=
  .of_wp fun prog w A R s h => by
    obtain ⟨hp, g, d, tk, os⟩ := s
    obtain ⟨hl, h⟩ := h
    have f1 := AutoSeq1.idx_int
    wp_walk using wpAny_loadPart' hl
    repeat (first
      | (refine wpAny_ite_false (decide_eq_false (by decide)) ?_; wp_walk using wpAny_loadPart' hl)
      | (refine wpAny_ite_true (decide_eq_true (by simp)) ?_; wp_walk using wpAny_loadPart' hl))
    exact ⟨_, rfl, h⟩
def rRepT1 (K : PySem.W.Frag) : R2 := fun x y H Q => ∃ l xs, x = .ref l ∧ y = .int 1 ∧ SqT K H l xs ∧ Q (.ref l) H
theorem op_repT1 : OpR X (binaryOp .Mult) (rRepT1 X.K) := by
  intro pins s σ H x y v u Q I rx ry h
  obtain ⟨l, xs, rfl, rfl, hT, q⟩ := h
  cases rx
  obtain ⟨t, rfl⟩ := ry
  obtain ⟨its, r, ⟨⟨cls, dd, data, sl⟩, ho, hc, n, hd⟩, hs⟩ := I.tuple hT
  simp only at hc hd
  subst hc hd
  refine wpAny_binaryOp_repeat_ref (T := "tuple") (U := "int") (by decide) ⟨_, ho, rfl⟩ (fun s' => typeIs_int s' 1 t) noFill_tuple_mul F.fills_int_mul F.slot_int_rmul repeat_tuple F.slot_int_index.lookup
    (call_meets F.slot_int_rmul (typeIs_int s 1 t) F.entry_int_rmul (F.args_int_rmul_2 _ _) (int_rmul_tuple 1 t l its.toArray n dd sl)
      ⟨ho, rfl, ⟨_, ho, rfl⟩, call_meets F.slot_tuple_mul ⟨_, ho, rfl⟩ F.entry_tuple_mul (F.args_tuple_mul_2 _ _) (tuple_mul1 l its.toArray n dd sl t) ⟨ho, ?_⟩⟩)
  exact ⟨.ref l, H, I, rfl, q⟩
/-- t * k is empty for k ≤ 0 -/
theorem tuple_mul0 (l : Addr) (items : Array Value) (n : Nat) (dd : Option Addr) (sl : Array (Option Value)) (x : Int) (u : Tok) (c0 : (decide (x < -(2 ^ 63)) || decide (x ≥ 2 ^ 63)) = false) (c1 : (items.isEmpty || x == 1) = false) (c2 : (decide (x ≤ 0) || items.isEmpty) = true) :
    Meets (Builtin.«tuple.__mul__» ⟨[.ref l, .int x u], []⟩) (fun _ R s => s.heap.get? l = some { cls := .type "tuple", dict := dd, data := .seq items n, slots := sl } ∧
      R (.ok (.ret (Value.ref s.heap.objs.size))) { s with heap := s.heap.push { cls := Value.type "tuple", data := Data.seq #[] }, toks := s.toks }) :=
  .of_wp fun prog w A R s h => by
    obtain ⟨hp, g, d, tk, os⟩ := s
    obtain ⟨hl, h⟩ := h
    have f1 := AutoSeq1.idx_int
    wp_walk using wpAny_loadPart' hl
    repeat (first
      | (refine wpAny_ite_false (decide_eq_false (by rw [c0]; exact Bool.false_ne_true)) ?_; wp_walk using wpAny_loadPart' hl)
      | (refine wpAny_ite_false (decide_eq_false (by rw [c1]; exact Bool.false_ne_true)) ?_; wp_walk using wpAny_loadPart' hl)
      | (refine wpAny_ite_true (decide_eq_true c2) ?_; wp_walk using wpAny_loadPart' hl))
    exact ⟨_, rfl, h⟩
def rRepT0 (K : PySem.W.Frag) : R2 := fun x y H Q => ∃ l k xs, x = .ref l ∧ y = .int k ∧ SqT K H l xs ∧ xs ≠ [] ∧ k ≤ 0 ∧ -(2 ^ 62) ≤ k ∧ ∀ p, H p = none → Q (.ref p) (upd H p (.tup []))
theorem op_repT0 : OpR X (binaryOp .Mult) (rRepT0 X.K) := by
  intro pins s σ H x y v u Q I rx ry h
  obtain ⟨l, k, xs, rfl, rfl, hT, hne, h1, h2, q⟩ := h
  cases rx
  obtain ⟨t, rfl⟩ := ry
  obtain ⟨its, r, ⟨⟨cls, dd, data, sl⟩, ho, hc, n, hd⟩, hs⟩ := I.tuple hT
  simp only at hc hd
  subst hc hd
  have hle : its.length = xs.length := r.length.symm
  have hn : its ≠ [] := fun e => hne (by
    rw [e] at hle
    exact List.eq_nil_of_length_eq_zero hle.symm)
  have hi : its.toArray.isEmpty = false := by
    cases its with
    | nil => exact absurd rfl hn
    | cons a b => rfl
  have c0 : (decide (k < -(2 ^ 63)) || decide (k ≥ 2 ^ 63)) = false := by
    rw [decide_eq_false (by omega), decide_eq_false (by omega)] <;> rfl
  have c1 : (its.toArray.isEmpty || k == 1) = false := by
    rw [hi, Bool.false_or]
    exact beq_eq_false_iff_ne.mpr (by omega)
  have c2 : (decide (k ≤ 0) || its.toArray.isEmpty) = true := by
    rw [hi, Bool.or_false]
    exact decide_eq_true (by omega)
  refine wpAny_binaryOp_repeat_ref (T := "tuple") (U := "int") (by decide) ⟨_, ho, rfl⟩ (fun s' => typeIs_int s' k t) noFill_tuple_mul F.fills_int_mul F.slot_int_rmul repeat_tuple F.slot_int_index.lookup
    (call_meets F.slot_int_rmul (typeIs_int s k t) F.entry_int_rmul (F.args_int_rmul_2 _ _) (int_rmul_tuple k t l its.toArray n dd sl)
      ⟨ho, rfl, ⟨_, ho, rfl⟩, call_meets F.slot_tuple_mul ⟨_, ho, rfl⟩ F.entry_tuple_mul (F.args_tuple_mul_2 _ _) (tuple_mul0 l its.toArray n dd sl k t c0 c1 c2) ⟨ho, ?_⟩⟩)
  refine ⟨.ref s.heap.objs.size, _, I.laid (t' := s.toks) (o := .tup []) (fun b ob q => Heap.get?_push_of_some _ q) (Nat.le_refl _) ?_, rfl, q _ (I.hok.fresh (Nat.le_refl _))⟩
  exact ⟨by simp, [], .nil, IsTup.new _ _⟩
def opMul : D → D → Tree D
  | .int i, .int j => if mulB i j = true then leaf (.int (i * j)) else fail
  | .lst xs, .int k => if repOk xs.length k = true then leaf (.lst (List.replicate k.toNat xs).flatten) else fail
  | .tup xs, .int k => if k = 1 then leaf (.tup xs) else if (!xs.isEmpty && decide (2 ≤ k) && decide (k ≤ 1000) && decide (xs.length ≤ 1000)) = true then leaf (.tup (List.replicate k.toNat xs).flatten) else if (!xs.isEmpty && decide (k ≤ 0) && decide (-(2 ^ 62) ≤ k)) = true then leaf (.tup []) else fail
  | _, _ => fail
def rMulAll (K : PySem.W.Frag) : R2 := fun x y H Q => rI CMulW (fun i j => .int (i * j)) x y H Q ∨ rRep x y H Q ∨ rRepT1 K x y H Q ∨ rRepT K x y H Q ∨ rRepT0 K x y H Q
theorem or_mul : OpR X (binaryOp .Mult) (rMulAll X.K) := OpR.or op_mulW (OpR.or op_rep (OpR.or op_repT1 (OpR.or op_repT op_repT0)))
theorem o2_mul : Op2 K (rMulAll K) opMul := by
  intro F H v u d e Q g p1 p2 q
  unfold opMul at q
  split at q
  · split at q
    · rename_i h
      cases p1.int; cases p2.int
      exact .inl ⟨_, _, rfl, rfl, (show _ < _ from of_decide_eq_true h), q _ F H (Ext.refl g) (.int _)⟩
    · exact q.elim
  · split at q
    · rename_i h
      unfold repOk at h
      simp only [Bool.and_eq_true, decide_eq_true_eq] at h
      obtain ⟨a, xs, rfl, h1, r1⟩ := p1.lst g
      cases p2.int
      refine .inr (.inl ⟨a, _, xs, rfl, rfl, h1, h.1.1, h.1.2, by rw [r1.length]; exact h.2, fun p hp => ?_⟩)
      exact q _ (F.add p (.lst _)) _ (Ext.addNew g hp) (.lst upd_same ((r1.rep _).mono (Fz.le_add (g.free hp).1)))
    · exact q.elim
  · split at q
    · rename_i h
      subst h
      obtain ⟨a, xs, rfl, h1, r1⟩ := p1.tup g
      cases p2.int
      refine .inr (.inr (.inl ⟨a, xs, rfl, rfl, h1, ?_⟩))
      cases p1 with | rep r => exact q _ F H (Ext.refl g) r
    · split at q
      · rename_i h
        simp only [Bool.and_eq_true, decide_eq_true_eq, Bool.not_eq_true'] at h
        obtain ⟨a, xs, rfl, h1, r1⟩ := p1.tup g
        cases p2.int
        refine .inr (.inr (.inr (.inl ⟨a, _, xs, rfl, rfl, h1, fun z => ?_, h.1.1.2, h.1.2, by rw [r1.length]; exact h.2, fun p hp => ?_⟩)))
        · subst z; cases r1; simp at h
        · exact q _ (F.add p (.tup _)) _ (Ext.addNew g hp) (.tup (.of upd_same) ((r1.rep _).mono (Fz.le_add (g.free hp).1)))
      · split at q
        · rename_i h
          simp only [Bool.and_eq_true, decide_eq_true_eq, Bool.not_eq_true'] at h
          obtain ⟨a, xs, rfl, h1, r1⟩ := p1.tup g
          cases p2.int
          refine .inr (.inr (.inr (.inr ⟨a, _, xs, rfl, rfl, h1, fun z => ?_, h.1.2, h.2, fun p hp => ?_⟩)))
          · subst z; cases r1; simp at h
          · exact q _ (F.add p (.tup _)) _ (Ext.addNew g hp) (.tup (.of upd_same) .nil)
        · exact q.elim
  · exact q.elim
/-- [..] * n as a list of one's own -/
def opRepL : D → D → Tree (List D)
  | .lst xs, .int k => if repOk xs.length k = true then leaf (List.replicate k.toNat xs).flatten else fail
  | _, _ => fail
theorem sl_rep {a b : Expr} {ma mb : En → Tree D} {pos : Pos} (ha : SP X a ma) (hb : SP X b mb) : SL X (.BinOp a .Mult b pos) (fun E => (ma E).bind fun d => (mb E).bind fun e => opRepL d e) := by
  refine ⟨PE.weak (pe_op op_rep ha.pe hb.pe) fun σ H Q ⟨B, F, E, g, rl, q⟩ => ?_⟩
  refine ⟨B, F, E, g, rl, Tree.all_mono (fun d k v F1 H1 e1 p1 => ?_) (Tree.all_bind.mp q)⟩
  refine ⟨B, F1, E, e1.good, rl.ext e1, Tree.all_mono (fun e k u F2 H2 e2 p2 => ?_) (Tree.all_bind.mp k)⟩
  have p1 := p1.ext e2
  unfold opRepL at k
  split at k
  · split at k
    · rename_i h
      unfold repOk at h
      simp only [Bool.and_eq_true, decide_eq_true_eq] at h
      obtain ⟨a, xs, rfl, h1, r1⟩ := p1.lst e2.good
      cases p2.int
      refine ⟨a, _, xs, rfl, rfl, h1, h.1.1, h.1.2, by rw [r1.length]; exact h.2, fun p hp => ?_⟩
      have f := e2.good.free hp
      exact k p _ F2 _ ((e1.trans e2).trans (Ext.new e2.good hp)) upd_same f.1 f.2 (ext_none g (e1.trans e2) hp) (r1.rep _)
    · exact k.elim
  · exact k.elim

/-! ### comparisons of ints -/
def cmpI (p : Int → Int → Bool) : D → D → Tree Bool
  | .int i, .int j => leaf (p i j)
  | _, _ => fail
theorem c2_int {p : Int → Int → Bool} : Cmp2 K (rI0 fun i j => .bl (p i j)) (cmpI p) := by
  intro F H v u d e Q g p1 p2 q
  unfold cmpI at q
  split at q
  · cases p1.int; cases p2.int
    exact ⟨_, _, rfl, rfl, q⟩
  · exact q.elim
def cLt : D → D → Tree Bool := cmpI fun i j => decide (i < j)
def cLe : D → D → Tree Bool := cmpI fun i j => decide (i ≤ j)
def cGt : D → D → Tree Bool := cmpI fun i j => decide (j < i)
def cGe : D → D → Tree Bool := cmpI fun i j => decide (j ≤ i)
def cIsN : D → D → Tree Bool
  | .pot, .non => fail
  | .ty _, .non => fail
  | .scr _, .non => fail
  | .non, .non => leaf true
  | _, .non => leaf false
  | _, _ => fail
theorem not_non {F : Fz} {H : Hp} {v : V} {d : D} (h : Pk K F H v d) (hd : d ≠ .non) : decide (v = V.non) = false := decide_eq_false fun z => by
  subst z
  cases h with | rep r => cases r; exact hd rfl
theorem c2_isN : Cmp2 K (fun x y H Q => y = .non ∧ Q (.bl (decide (x = .non))) H) cIsN := by
  intro F H v u d e Q g p1 p2 q
  unfold cIsN at q
  split at q
  · exact q.elim
  · exact q.elim
  · exact q.elim
  · cases p1.non; cases p2.non; exact ⟨rfl, q⟩
  · rename_i h1 h2 h3 h4
    cases p2.non
    refine ⟨rfl, ?_⟩
    rw [not_non p1 (by intro z; exact h4 z)]
    exact q
  · exact q.elim
def cNotN : D → D → Tree Bool := fun d e => (cIsN d e).bind fun b => leaf (!b)
theorem c2_notN : Cmp2 K (fun x y H Q => y = .non ∧ Q (.bl (!decide (x = .non))) H) cNotN := by
  intro F H v u d e Q g p1 p2 q
  exact c2_isN F H v u d e (fun z H => ∃ b, z = .bl b ∧ Q (.bl (!b)) H) g p1 p2 (Tree.all_mono (fun b h => ⟨b, rfl, h⟩) (Tree.all_bind.mp q)) |> fun ⟨h1, b, h2, h3⟩ => ⟨h1, by cases h2; exact h3⟩

/-! ### == of data -/
def toPy : Nat → D → PyData
  | 0, _ => .none
  | n + 1, d => match d with
    | .non => .none
    | .bl b => .bool b
    | .int i => .int i
    | .str x => .str x
    | .tup xs => .tuple (xs.map (toPy n))
    | .lst xs => .list (xs.map (toPy n))
    | _ => .none
def fitD : Nat → D → Bool
  | 0, _ => false
  | n + 1, d => match d with
    | .non => true
    | .bl _ => true
    | .int _ => true
    | .str x => PyData.strOk x
    | .tup xs => xs.all (fitD n)
    | .lst xs => xs.all (fitD n)
    | _ => false
def allEq (p : D → D → Bool) : List D → List D → Bool
  | [], [] => true
  | x :: xs, y :: ys => p x y && allEq p xs ys
  | _, _ => false
def eqD : Nat → D → D → Bool
  | 0, _, _ => false
  | n + 1, d, e => match d, e with
    | .non, .non => true
    | .bl a, .bl b => a == b
    | .bl a, .int j => (if a then 1 else 0) == j
    | .int i, .bl b => i == (if b then 1 else 0)
    | .int i, .int j => i == j
    | .str x, .str y => x == y
    | .tup xs, .tup ys => allEq (eqD n) xs ys
    | .lst xs, .lst ys => allEq (eqD n) xs ys
    | _, _ => false
end
end R

set_option Elab.async false
set_option linter.all false
set_option maxRecDepth 100000
namespace R
open PySem PySem.Spec PyProof.Rows L2
open Tree (leaf fail)
section
variable {X : Cx} {K : PySem.W.Frag}
theorem canLayAll_map {n : Nat} (ih : ∀ d, fitD n d = true → (toPy n d).canLay0 = true) : ∀ xs : List D, xs.all (fitD n) = true → PyData.canLayAll0 (xs.map (toPy n)) = true
  | [], _ => by simp [PyData.canLayAll0]
  | x :: xs, h => by
    rw [List.all_cons, Bool.and_eq_true] at h
    rw [List.map_cons, PyData.canLayAll0, ih x h.1, canLayAll_map ih xs h.2]; rfl
theorem canLay_fit : ∀ (n : Nat) (d : D), fitD n d = true → (toPy n d).canLay0 = true
  | 0, _, h => by cases h
  | n + 1, d, h => by
    cases d with
    | non => simp [toPy, PyData.canLay0]
    | bl b => simp [toPy, PyData.canLay0]
    | int i => simp [toPy, PyData.canLay0]
    | str x => simp only [toPy, PyData.canLay0]; exact h
    | tup xs => simp only [toPy, PyData.canLay0]; exact canLayAll_map (canLay_fit n) xs h
    | lst xs => simp only [toPy, PyData.canLay0]; exact canLayAll_map (canLay_fit n) xs h
    | pot => cases h
    | ty _ => cases h
    | scr _ => cases h
    | dct => cases h
    | fn _ => cases h
theorem depthAll_map {n : Nat} (ih : ∀ d, (toPy n d).depth ≤ n) : ∀ xs : List D, PyData.depthAll (xs.map (toPy n)) ≤ n
  | [] => by simp [PyData.depthAll]
  | x :: xs => by
    rw [List.map_cons, PyData.depthAll]
    have := ih x
    have := depthAll_map ih xs
    omega
theorem depth_py : ∀ (n : Nat) (d : D), (toPy n d).depth ≤ n
  | 0, _ => by simp [toPy, PyData.depth]
  | n + 1, d => by
    cases d with
    | tup xs => simp only [toPy, PyData.depth]; have := depthAll_map (depth_py n) xs; omega
    | lst xs => simp only [toPy, PyData.depth]; have := depthAll_map (depth_py n) xs; omega
    | _ => simp [toPy, PyData.depth]
theorem shaped_fit {n : Nat} {d : D} (hn : n ≤ 64) (h : fitD n d = true) : SeqAt.shaped (toPy n d) = true := by
  unfold SeqAt.shaped
  rw [canLay_fit n d h, Bool.true_and, decide_eq_true_eq]
  exact Nat.le_trans (depth_py n d) hn
theorem eqvAll_map {n : Nat} (ih : ∀ d e, fitD n d = true → fitD n e = true → PyData.eqv (toPy n d) (toPy n e) = eqD n d e) : ∀ xs ys : List D, xs.all (fitD n) = true → ys.all (fitD n) = true → PyData.eqvAll (xs.map (toPy n)) (ys.map (toPy n)) = allEq (eqD n) xs ys
  | [], [], _, _ => by simp [PyData.eqvAll, allEq]
  | [], _ :: _, _, _ => by simp [PyData.eqvAll, allEq]
  | _ :: _, [], _, _ => by simp [PyData.eqvAll, allEq]
  | x :: xs, y :: ys, h1, h2 => by
    rw [List.all_cons, Bool.and_eq_true] at h1 h2
    rw [List.map_cons, List.map_cons, PyData.eqvAll, allEq, ih x y h1.1 h2.1, eqvAll_map ih xs ys h1.2 h2.2]
theorem eqv_py : ∀ (n : Nat) (d e : D), fitD n d = true → fitD n e = true → PyData.eqv (toPy n d) (toPy n e) = eqD n d e
  | 0, _, _, h, _ => by cases h
  | n + 1, d, e, h1, h2 => by
    cases d <;> cases e <;> first
      | (cases h1; done)
      | (cases h2; done)
      | (simp only [toPy, PyData.eqv, eqD]; done)
      | (simp only [toPy, PyData.eqv, eqD]; exact eqvAll_map (eqv_py n) _ _ h1 h2)
theorem dpAll_of {n : Nat} {F : Fz} {H : Hp} (ih : ∀ d v, fitD n d = true → Rep K F v d → Dp K H v (toPy n d)) : ∀ (ds : List D) (vs : List V), ds.all (fitD n) = true → Reps K F vs ds → DpAll K H vs (ds.map (toPy n))
  | _, _, _, .nil => .nil
  | d :: ds, _, h, .cons r rs => by
    rw [List.all_cons, Bool.and_eq_true] at h
    exact .cons (ih d _ h.1 r) (dpAll_of ih ds _ h.2 rs)
theorem dp_of {F : Fz} {H : Hp} (g : Good F H) : ∀ (n : Nat) (d : D) (v : V), fitD n d = true → Rep K F v d → Dp K H v (toPy n d)
  | 0, _, _, h, _ => by cases h
  | n + 1, d, v, h, r => by
    cases r with
    | non => exact .non
    | bl b => exact .bl b
    | int i => exact .int i
    | str x => exact .str x
    | tup hs rs => exact .tup (sqT_same g.sub hs.sq) (dpAll_of (dp_of g n) _ _ h rs)
    | lst hs rs => exact .lst (.of (g.sub _ _ hs)) (dpAll_of (dp_of g n) _ _ h rs)
    | pot _ => cases h
    | ty _ => cases h
    | scr _ => cases h
    | dct _ => cases h
    | fn _ => cases h
theorem dpk_of {F : Fz} {H : Hp} (g : Good F H) {n : Nat} {d : D} {v : V} (h : fitD n d = true) (p : Pk K F H v d) : Dp K H v (toPy n d) := by
  cases p with
  | rep r => exact dp_of g n d v h r
  | own hh _ _ rs =>
    cases n with
    | zero => cases h
    | succ n => exact .lst (.of hh) (dpAll_of (dp_of g n) _ _ h rs)
def cEq : D → D → Tree Bool := fun d e => if (fitD 12 d && fitD 12 e) = true then leaf (eqD 12 d e) else fail
def cNe : D → D → Tree Bool := fun d e => if (fitD 12 d && fitD 12 e) = true then leaf (!eqD 12 d e) else fail
theorem c2_eq : Cmp2 K (rEqD K) cEq := by
  intro F H v u d e Q g p1 p2 q
  unfold cEq at q
  split at q
  · rename_i h
    rw [Bool.and_eq_true] at h
    refine ⟨_, _, dpk_of g h.1 p1, dpk_of g h.2 p2, shaped_fit (by decide) h.1, shaped_fit (by decide) h.2, ?_⟩
    rw [eqv_py 12 d e h.1 h.2]; exact q
  · exact q.elim
theorem c2_ne : Cmp2 K (rNeD K) cNe := by
  intro F H v u d e Q g p1 p2 q
  unfold cNe at q
  split at q
  · rename_i h
    rw [Bool.and_eq_true] at h
    refine ⟨_, _, dpk_of g h.1 p1, dpk_of g h.2 p2, shaped_fit (by decide) h.1, shaped_fit (by decide) h.2, ?_⟩
    rw [eqv_py 12 d e h.1 h.2]; exact q
  · exact q.elim
/-! ### in -/
def flatD : D → Bool
  | .non => true
  | .bl _ => true
  | .int _ => true
  | .str _ => true
  | _ => false
theorem flat_of {F : Fz} {v : V} {d : D} (h : flatD d = true) (r : Rep K F v d) : flatV v = true := by
  cases r <;> first | rfl | cases h
theorem eqV_of {F : Fz} {v w : V} {d e : D} (hd : flatD d = true) (he : flatD e = true) (r : Rep K F v d) (s : Rep K F w e) : eqV v w = eqD 1 d e := by
  cases r <;> cases s <;> first | rfl | (cases hd; done) | (cases he; done)
theorem flats_of {F : Fz} : ∀ {vs : List V} {ds : List D}, ds.all flatD = true → Reps K F vs ds → vs.all flatV = true
  | _, _, _, .nil => rfl
  | _, _, h, .cons r rs => by
    rw [List.all_cons, Bool.and_eq_true] at h ⊢
    exact ⟨flat_of h.1 r, flats_of h.2 rs⟩
theorem inV_of {F : Fz} {v : V} {d : D} (hd : flatD d = true) (r : Rep K F v d) : ∀ {vs : List V} {ds : List D}, ds.all flatD = true → Reps K F vs ds → inV v vs = ds.any fun e => eqD 1 e d
  | _, _, _, .nil => rfl
  | _, _, h, .cons q qs => by
    rw [List.all_cons, Bool.and_eq_true] at h
    unfold inV
    rw [List.any_cons, List.any_cons, eqV_of h.1 hd q r]
    exact congrArg _ (inV_of hd r h.2 qs)
theorem Pk.flat {F : Fz} {H : Hp} {v : V} {d : D} (h : flatD d = true) (p : Pk K F H v d) : Rep K F v d := by
  cases p with
  | rep r => exact r
  | own _ _ _ _ => cases h
def inB (d : D) (ds : List D) : Tree Bool := if (flatD d && ds.all flatD) = true then leaf (ds.any fun e => eqD 1 e d) else fail
def cIn (neg : Bool) : D → D → Tree Bool
  | d, .lst ds => (inB d ds).bind fun b => leaf (if neg then !b else b)
  | d, .tup ds => (inB d ds).bind fun b => leaf (if neg then !b else b)
  | _, _ => fail
theorem c2_in (neg : Bool) : Cmp2 K (rIn K neg) (cIn neg) := by
  intro F H v u d e Q g p1 p2 q
  have go : ∀ {ds : List D} {a : Addr} {xs : List V}, (SqL K H a xs ∨ SqT K H a xs) → Reps K F xs ds → ((inB d ds).bind fun b => leaf (if neg then !b else b)).all (fun b => Q (.bl b) H) → rIn K neg v (.ref a) H Q := fun {ds a xs} hs rs q => by
    have q := Tree.all_bind.mp q
    unfold inB at q
    by_cases h : (flatD d && ds.all flatD) = true
    · rw [if_pos h] at q
      rw [Bool.and_eq_true] at h
      refine ⟨a, xs, rfl, hs, flat_of h.1 (p1.flat h.1), flats_of h.2 rs, ?_⟩
      rw [inV_of h.1 (p1.flat h.1) h.2 rs]
      exact q
    · rw [if_neg h] at q
      exact False.elim q
  unfold cIn at q
  split at q
  · obtain ⟨a, xs, rfl, h1, r1⟩ := p2.lst g
    exact go (.inl (.of h1)) r1 q
  · obtain ⟨a, xs, rfl, h1, r1⟩ := p2.tup g
    exact go (.inr h1) r1 q
  · exact q.elim

/-! ### items -/
def ixO {α : Type} (xs : List α) (i : Int) (k : α → Tree D) : Tree D := match atI xs i with
  | some d => k d
  | none => fail
def opIx : D → D → Tree D
  | .lst xs, .int i => ixO xs i leaf
  | .tup xs, .int i => ixO xs i leaf
  | .scr ns, .int i => ixO ns i fun k => leaf (.int k)
  | _, _ => fail
theorem atI_rep {F : Fz} {vs : List V} {ds : List D} {i : Int} {d : D} (r : Reps K F vs ds) (h : atI ds i = some d) : ∃ v, atI vs i = some v ∧ Rep K F v d := by
  unfold atI at h ⊢
  rw [← r.length] at h
  cases e : ixN vs.length i with
  | none => rw [e] at h; cases h
  | some j =>
    rw [e] at h
    obtain ⟨v, h1, h2⟩ := r.get' (show ds[j]? = some d from h)
    exact ⟨v, h1, h2⟩
theorem atI_map {α β : Type} (f : α → β) (xs : List α) (i : Int) : atI (xs.map f) i = (atI xs i).map f := by
  unfold atI
  rw [List.length_map]
  cases ixN xs.length i with
  | none => rfl
  | some j => show (xs.map f)[j]? = _; rw [List.getElem?_map]; rfl
theorem o2_ix : Op2 K (rIx K) opIx := by
  intro F H v u d e Q g p1 p2 q
  unfold opIx at q
  split at q
  · obtain ⟨a, xs, rfl, h1, r1⟩ := p1.lst g
    cases p2.int
    unfold ixO at q
    split at q
    · rename_i x hx
      obtain ⟨w, hw, rw'⟩ := atI_rep r1 hx
      exact .inl ⟨a, xs, _, w, rfl, rfl, .of h1, hw, q w F H (Ext.refl g) rw'⟩
    · exact q.elim
  · obtain ⟨a, xs, rfl, h1, r1⟩ := p1.tup g
    cases p2.int
    unfold ixO at q
    split at q
    · rename_i x hx
      obtain ⟨w, hw, rw'⟩ := atI_rep r1 hx
      exact .inr (.inl ⟨a, xs, _, w, rfl, rfl, h1, hw, q w F H (Ext.refl g) rw'⟩)
    · exact q.elim
  · obtain ⟨a, rfl, h1⟩ := p1.scr g
    cases p2.int
    unfold ixO at q
    split at q
    · rename_i x hx
      refine .inl ⟨a, _, _, .int x, rfl, rfl, h1, ?_, q _ F H (Ext.refl g) (.int x)⟩
      rw [atI_map, hx]; rfl
    · exact q.elim
  · exact q.elim

/-! ### slices -/
def cutD (xs : List D) (lo hi : Option Int) : List D := (xs.drop (HT.sIx xs.length 0 lo)).take (HT.sIx xs.length xs.length hi - HT.sIx xs.length 0 lo)
theorem cut_rep {F : Fz} {vs : List V} {ds : List D} (r : Reps K F vs ds) (lo hi : Option Int) : Reps K F (cutV vs lo hi) (cutD ds lo hi) := by
  unfold cutV cutD
  rw [r.length]
  exact (r.drop _).take _
def opCut (lo hi : Option Int) : D → Tree D
  | .lst xs => leaf (.lst (cutD xs lo hi))
  | .tup xs => leaf (.tup (cutD xs lo hi))
  | _ => fail
def rCut (K : PySem.W.Frag) : V → Option Int → Option Int → Hp → VK → Prop := fun x lo hi H Q => rSlL K x lo hi H Q ∨ rSlA K x lo hi H Q
theorem sl_cut : SlR X (rCut X.K) := SlR.or sl_list sl_tupA
structure SO (X : Cx) (e : Option Expr) (m : En → Tree (Option Int)) : Prop where
  po : ∃ t, PO X e t ∧ ∀ σ H Q, (∃ B F E, Good F H ∧ RelE X.K B F H σ E ∧ (m E).all fun o => ∀ F' H', Ext F H F' H' → Q o H') → t σ H Q
theorem so_none : SO X none (fun _ => leaf none) := ⟨_, po_none, fun σ H Q ⟨B, F, E, g, r, q⟩ => q F H (Ext.refl g)⟩
def mPart (m : En → Tree D) : En → Tree (Option Int) := fun E => (m E).bind fun d => match d with
  | .int i => leaf (some i)
  | _ => fail
theorem so_some {e : Expr} {m : En → Tree D} (h : SP X e m) : SO X (some e) (mPart m) := ⟨_, po_some h.pe, fun σ H Q ⟨B, F, E, g, r, q⟩ => by
  refine ⟨B, F, E, g, r, Tree.all_mono (fun d k v F' H' e p => ?_) (Tree.all_bind.mp q)⟩
  cases d with
  | int i => exact ⟨i, p.int, k F' H' e⟩
  | _ => exact False.elim k⟩
def mCut (m : En → Tree D) (ml mh : En → Tree (Option Int)) : En → Tree D := fun E => (m E).bind fun d => (ml E).bind fun lo => (mh E).bind fun hi => opCut lo hi d
theorem cut_all {F : Fz} {H : Hp} {v : V} {d : D} {lo hi : Option Int} {Q : VK} (g : Good F H) (p : Pk K F H v d) (q : (opCut lo hi d).all fun d => ∀ v F' H', Ext F H F' H' → Rep K F' v d → Q v H') : rCut K v lo hi H Q := by
  unfold opCut at q
  split at q
  · obtain ⟨a, xs, rfl, h1, r1⟩ := p.lst g
    refine .inl ⟨a, xs, rfl, .of h1, fun p hp => ?_⟩
    exact q _ (F.add p (.lst _)) _ (Ext.addNew g hp) (.lst upd_same ((cut_rep r1 lo hi).mono (Fz.le_add (g.free hp).1)))
  · obtain ⟨a, xs, rfl, h1, r1⟩ := p.tup g
    have n1 : ∀ {c : Addr} {ds : List D}, Pk K F H (.ref c) (.tup ds) → Rep K F (.ref c) (.tup ds) := fun {c ds} h => by cases h with | rep r => exact r
    refine .inr ⟨a, xs, rfl, h1, fun w => ?_, fun w p hp => ?_⟩
    · have e : ∀ ds : List D, xs.length = ds.length → cutD ds lo hi = ds := fun ds hl => by
        unfold cutD
        rw [← hl, w.1, w.2, Nat.sub_zero, List.drop_zero, hl, List.take_length]
      rw [e _ r1.length] at q
      exact q _ F H (Ext.refl g) (n1 p)
    · exact q _ (F.add p (.tup _)) _ (Ext.addNew g hp) (.tup (.of upd_same) ((cut_rep r1 lo hi).mono (Fz.le_add (g.free hp).1)))
  · exact q.elim
theorem se_cut {e : Expr} {lo hi : Option Expr} {m : En → Tree D} {ml mh : En → Tree (Option Int)} {p2 pos : Pos} (he : SP X e m) (hl : SO X lo ml) (hh : SO X hi mh) : SE X (.Subscript e (.Slice lo hi none p2) pos) (mCut m ml mh) := by
  obtain ⟨tl, l1, l2⟩ := hl.po
  obtain ⟨th, h1, h2⟩ := hh.po
  refine ⟨PE.weak (pe_slice sl_cut he.pe l1 h1) fun σ H Q ⟨B, F, E, g, rl, q⟩ => ?_⟩
  refine ⟨B, F, E, g, rl, Tree.all_mono (fun d k v F1 H1 e1 p1 => ?_) (Tree.all_bind.mp q)⟩
  refine l2 _ _ _ ⟨B, F1, E, e1.good, rl.ext e1, Tree.all_mono (fun o k F2 H2 e2 => ?_) (Tree.all_bind.mp k)⟩
  refine h2 _ _ _ ⟨B, F2, E, e2.good, (rl.ext e1).ext e2, Tree.all_mono (fun o' k F3 H3 e3 => ?_) (Tree.all_bind.mp k)⟩
  exact cut_all e3.good ((p1.ext e2).ext e3) (Tree.all_mono (fun z kz w F4 H4 e4 rz => kz w F4 H4 (((e1.trans e2).trans e3).trans e4) rz) k)
end
end R

set_option Elab.async false
set_option linter.all false
set_option maxRecDepth 100000
namespace R
open PySem PySem.Spec PyProof.Rows L2
open Tree (leaf fail)
section
variable {X : Cx} {K : PySem.W.Frag} {x : Str} {p pos : Pos} {e : Expr} {es : List Expr} {ma : En → Tree (List D)} {f : List D → Tree D} {r : List V → Hp → VK → Prop} {id T : String}
theorem se_bi (hc : CallR X (.builtin id) r) (hf : Fn1 X.K r f) (hg : Gl X x) (hm : X.mg x = none) (hv : bootBuiltins x = some (.builtin id)) (ha : SPA X (e :: es) ma) (hn : x ≠ "__name__" := by decide) (hdb : (x == ("__debug__" : Str)) = false := by decide)
    (he : starEach (e :: es) X.env = (false, eval e X.env) :: starEach es X.env := by rfl) (hpl : (backTo pos (starEach es X.env)).any (·.1) = false := by rfl) : SE X (.Call (.Name x p) (e :: es) [] pos) (mA f ma) :=
  ⟨PE.weak (pe_callB hc hg hm hv ha.pa hn hdb he hpl) fun σ H Q h => callA hf h⟩
theorem se_bt (hc : CallR X (.type T) r) (hf : Fn1 X.K r f) (hg : Gl X x) (hm : X.mg x = none) (hv : bootBuiltins x = some (.type T)) (ha : SPA X (e :: es) ma) (hn : x ≠ "__name__" := by decide) (hdb : (x == ("__debug__" : Str)) = false := by decide)
    (he : starEach (e :: es) X.env = (false, eval e X.env) :: starEach es X.env := by rfl) (hpl : (backTo pos (starEach es X.env)).any (·.1) = false := by rfl) : SE X (.Call (.Name x p) (e :: es) [] pos) (mA f ma) :=
  ⟨PE.weak (pe_callTy hc hg hm hv ha.pa hn hdb he hpl) fun σ H Q h => callA hf h⟩
theorem CallR.or' {f : Value} {r r' : List V → Hp → VK → Prop} (h : CallR X f r) (h' : CallR X f r') : CallR X f (fun xs H Q => r xs H Q ∨ r' xs H Q) := CallR.or h h'
theorem pks1 {F : Fz} {H : Hp} {vs : List V} {d : D} (h : Pks K F H vs [d]) : ∃ v, vs = [v] ∧ Pk K F H v d := by
  cases h with | cons a b => cases b; exact ⟨_, rfl, a⟩
theorem pks2 {F : Fz} {H : Hp} {vs : List V} {d e : D} (h : Pks K F H vs [d, e]) : ∃ v u, vs = [v, u] ∧ Pk K F H v d ∧ Pk K F H u e := by
  cases h with | cons a b => cases b with | cons c b => cases b; exact ⟨_, _, rfl, a, c⟩

/-! ### len -/
def fLen : List D → Tree D
  | [.lst xs] => leaf (.int xs.length)
  | [.tup xs] => leaf (.int xs.length)
  | [.scr xs] => leaf (.int xs.length)
  | [.str x] => lineOk x.length (leaf (.int x.length))
  | _ => fail
def rLenS (K : PySem.W.Frag) : List V → Hp → VK → Prop := fun xs H Q => ∃ p ys, xs = [.ref p] ∧ (SqL K H p ys ∨ SqT K H p ys) ∧ Q (.int ys.length) H
def rLenT : List V → Hp → VK → Prop := fun xs H Q => ∃ z, xs = [.str z] ∧ z.length ≤ sizeLine ∧ Q (.int z.length) H
theorem cr_len : CallR X (.builtin "len") (fun xs H Q => rLenS X.K xs H Q ∨ rLenT xs H Q) := CallR.or call_len_seq call_len_str
theorem f1_len : Fn1 K (fun xs H Q => rLenS K xs H Q ∨ rLenT xs H Q) fLen := by
  intro F H vs ds Q g p q
  unfold fLen at q
  split at q
  · obtain ⟨v, rfl, pk⟩ := pks1 p
    obtain ⟨a, xs, rfl, h1, r1⟩ := pk.lst g
    exact .inl ⟨a, xs, rfl, .inl (.of h1), q _ F H (Ext.refl g) (by rw [r1.length]; exact .int _)⟩
  · obtain ⟨v, rfl, pk⟩ := pks1 p
    obtain ⟨a, xs, rfl, h1, r1⟩ := pk.tup g
    exact .inl ⟨a, xs, rfl, .inr h1, q _ F H (Ext.refl g) (by rw [r1.length]; exact .int _)⟩
  · obtain ⟨v, rfl, pk⟩ := pks1 p
    obtain ⟨a, rfl, h1⟩ := pk.scr g
    exact .inl ⟨a, _, rfl, .inl h1, q _ F H (Ext.refl g) (by rw [List.length_map]; exact .int _)⟩
  · obtain ⟨v, rfl, pk⟩ := pks1 p
    obtain ⟨hl, q⟩ := lineOk_all q
    cases pk.str
    exact .inr ⟨_, rfl, hl, q _ F H (Ext.refl g) (.int _)⟩
  · exact q.elim
/-! ### numbers -/
def fAbs : List D → Tree D
  | [.int i] => leaf (.int (if i < 0 then -i else i))
  | _ => fail
theorem f1_abs : Fn1 K (fun xs H Q => ∃ i, xs = [.int i] ∧ Q (.int (if i < 0 then -i else i)) H) fAbs := by
  intro F H vs ds Q g p q
  unfold fAbs at q
  split at q
  · obtain ⟨v, rfl, pk⟩ := pks1 p
    cases pk.int
    exact ⟨_, rfl, q _ F H (Ext.refl g) (.int _)⟩
  · exact q.elim
def fMax2 : List D → Tree D
  | [.int i, .int j] => leaf (.int (if j > i then j else i))
  | _ => fail
theorem f1_max2 : Fn1 K (fun xs H Q => ∃ i j, xs = [.int i, .int j] ∧ Q (.int (if j > i then j else i)) H) fMax2 := by
  intro F H vs ds Q g p q
  unfold fMax2 at q
  split at q
  · obtain ⟨v, u, rfl, p1, p2⟩ := pks2 p
    cases p1.int; cases p2.int
    exact ⟨_, _, rfl, q _ F H (Ext.refl g) (.int _)⟩
  · exact q.elim
def fMin2 : List D → Tree D
  | [.int i, .int j] => leaf (.int (if j < i then j else i))
  | _ => fail
theorem f1_min2 : Fn1 K (fun xs H Q => ∃ i j, xs = [.int i, .int j] ∧ Q (.int (if j < i then j else i)) H) fMin2 := by
  intro F H vs ds Q g p q
  unfold fMin2 at q
  split at q
  · obtain ⟨v, u, rfl, p1, p2⟩ := pks2 p
    cases p1.int; cases p2.int
    exact ⟨_, _, rfl, q _ F H (Ext.refl g) (.int _)⟩
  · exact q.elim
def fInt : List D → Tree D
  | [.int i] => leaf (.int i)
  | [.bl k] => leaf (.int (if k then 1 else 0))
  | _ => fail
theorem f1_int : Fn1 K (fun xs H Q => (∃ i, xs = [.int i] ∧ Q (.int i) H) ∨ ∃ k, xs = [.bl k] ∧ Q (.int (if k then 1 else 0)) H) fInt := by
  intro F H vs ds Q g p q
  unfold fInt at q
  split at q
  · obtain ⟨v, rfl, pk⟩ := pks1 p
    cases pk.int
    exact .inl ⟨_, rfl, q _ F H (Ext.refl g) (.int _)⟩
  · obtain ⟨v, rfl, pk⟩ := pks1 p
    cases pk.bl
    exact .inr ⟨_, rfl, q _ F H (Ext.refl g) (.int _)⟩
  · exact q.elim
/-! ### sums, all, any over lists -/
def intsD : List D → Option (List Int)
  | [] => some []
  | .int i :: ds => (intsD ds).map (i :: ·)
  | _ => none
theorem ints_of {F : Fz} : ∀ {ds : List D} {vs : List V} {ns : List Int}, intsD ds = some ns → Reps K F vs ds → vs = ns.map V.int
  | [], _, ns, h, .nil => by cases h; rfl
  | d :: ds, _, ns, h, .cons r rs => by
    cases d with
    | int i =>
      have h : (intsD ds).map (i :: ·) = some ns := h
      cases e : intsD ds with
      | none => rw [e] at h; cases h
      | some ms =>
        rw [e] at h
        cases h
        cases r
        rw [List.map_cons, ints_of e rs]
    | _ => cases h
def blsD : List D → Option (List Bool)
  | [] => some []
  | .bl i :: ds => (blsD ds).map (i :: ·)
  | _ => none
theorem bls_of {F : Fz} : ∀ {ds : List D} {vs : List V} {ns : List Bool}, blsD ds = some ns → Reps K F vs ds → vs = ns.map V.bl
  | [], _, ns, h, .nil => by cases h; rfl
  | d :: ds, _, ns, h, .cons r rs => by
    cases d with
    | bl i =>
      have h : (blsD ds).map (i :: ·) = some ns := h
      cases e : blsD ds with
      | none => rw [e] at h; cases h
      | some ms =>
        rw [e] at h
        cases h
        cases r
        rw [List.map_cons, bls_of e rs]
    | _ => cases h
def withO {α : Type} (o : Option α) (k : α → Tree D) : Tree D := match o with
  | some a => k a
  | none => fail
def fSum : List D → Tree D
  | [.lst ds] => withO (intsD ds) fun ns => leaf (.int ns.sum)
  | [.scr ns] => leaf (.int ns.sum)
  | _ => fail
theorem f1_sum : Fn1 K (rSum K) fSum := by
  intro F H vs ds Q g p q
  unfold fSum at q
  split at q
  · obtain ⟨v, rfl, pk⟩ := pks1 p
    obtain ⟨a, xs, rfl, h1, r1⟩ := pk.lst g
    unfold withO at q
    split at q
    · rename_i ns hn
      have e := ints_of hn r1
      subst e
      exact ⟨a, ns, rfl, .of h1, q _ F H (Ext.refl g) (.int _)⟩
    · exact q.elim
  · obtain ⟨v, rfl, pk⟩ := pks1 p
    obtain ⟨a, rfl, h1⟩ := pk.scr g
    exact ⟨a, _, rfl, h1, q _ F H (Ext.refl g) (.int _)⟩
  · exact q.elim
def fAll : List D → Tree D
  | [.lst ds] => withO (blsD ds) fun bs => leaf (.bl (bs.all fun b => b))
  | _ => fail
theorem f1_all : Fn1 K (rAll K) fAll := by
  intro F H vs ds Q g p q
  unfold fAll at q
  split at q
  · obtain ⟨v, rfl, pk⟩ := pks1 p
    obtain ⟨a, xs, rfl, h1, r1⟩ := pk.lst g
    unfold withO at q
    split at q
    · rename_i ns hn
      have e := bls_of hn r1
      subst e
      exact ⟨a, ns, rfl, .of h1, q _ F H (Ext.refl g) (.bl _)⟩
    · exact q.elim
  · exact q.elim
def fAny : List D → Tree D
  | [.lst ds] => withO (blsD ds) fun bs => leaf (.bl (bs.any fun b => b))
  | _ => fail
theorem f1_any : Fn1 K (rAny K) fAny := by
  intro F H vs ds Q g p q
  unfold fAny at q
  split at q
  · obtain ⟨v, rfl, pk⟩ := pks1 p
    obtain ⟨a, xs, rfl, h1, r1⟩ := pk.lst g
    unfold withO at q
    split at q
    · rename_i ns hn
      have e := bls_of hn r1
      subst e
      exact ⟨a, ns, rfl, .of h1, q _ F H (Ext.refl g) (.bl _)⟩
    · exact q.elim
  · exact q.elim
/-! ### tuple(x), list(x) -/
def fTuple : List D → Tree D
  | [.lst ds] => leaf (.tup ds)
  | [.tup ds] => leaf (.tup ds)
  | _ => fail
theorem f1_tuple : Fn1 K (fun xs H Q => ∃ p ys, xs = [.ref p] ∧ ((SqL K H p ys ∧ ∀ l, H l = none → Q (.ref l) (upd H l (.tup ys))) ∨ (SqT K H p ys ∧ Q (.ref p) H))) fTuple := by
  intro F H vs ds Q g p q
  unfold fTuple at q
  split at q
  · obtain ⟨v, rfl, pk⟩ := pks1 p
    obtain ⟨a, xs, rfl, h1, r1⟩ := pk.lst g
    refine ⟨a, xs, rfl, .inl ⟨.of h1, fun l hl => ?_⟩⟩
    exact q _ (F.add l (.tup xs)) _ (Ext.addNew g hl) (.tup (.of upd_same) (r1.mono (Fz.le_add (g.free hl).1)))
  · obtain ⟨v, rfl, pk⟩ := pks1 p
    obtain ⟨a, xs, rfl, h1, r1⟩ := pk.tup g
    refine ⟨a, xs, rfl, .inr ⟨h1, ?_⟩⟩
    cases pk with | rep r => exact q _ F H (Ext.refl g) r
  · exact q.elim
def fList : D → Tree (List D)
  | .lst ds => leaf ds
  | .tup ds => leaf ds
  | _ => fail
theorem sl_list {m : En → Tree D} (hg : Gl X "list") (hm : X.mg "list" = none) (ha : SP X e m) (he : starEach (e :: []) X.env = (false, eval e X.env) :: starEach [] X.env := by rfl) : SL X (.Call (.Name "list" p) [e] [] pos) (fun E => (m E).bind fList) := by
  refine ⟨PE.weak (pe_callTy call_list_of hg hm (by decide +kernel) (pa_cons ha.pe pa_nil he) (by decide) (by decide) he (by rfl)) fun σ H Q ⟨B, F, E, g, rl, q⟩ => ?_⟩
  refine ⟨B, F, E, g, rl, Tree.all_mono (fun d k v F1 H1 e1 p1 => ?_) (Tree.all_bind.mp q)⟩
  show ∃ p ys, [v] = [.ref p] ∧ (SqL X.K H1 p ys ∨ SqT X.K H1 p ys) ∧ ∀ l, H1 l = none → Q (.ref l) (upd H1 l (.lst ys))
  have go : ∀ {xs : List V} {ds : List D}, Reps X.K F1 xs ds → ((leaf ds : Tree (List D)).all fun ds => ∀ a xs F' H', Ext F H F' H' → H' a = some (.lst xs) → F'.P a = none → ¬ F'.T a → NT H a → Reps X.K F' xs ds → Q (.ref a) H') → ∀ l, H1 l = none → Q (.ref l) (upd H1 l (.lst xs)) := fun {xs ds} r k l hl => by
    have f := e1.good.free hl
    exact k l xs F1 _ (e1.trans (Ext.new e1.good hl)) upd_same f.1 f.2 (ext_none g e1 hl) r
  unfold fList at k
  split at k
  · obtain ⟨a, xs, rfl, h1, r1⟩ := p1.lst e1.good
    exact ⟨a, xs, rfl, .inl (.of h1), go r1 k⟩
  · obtain ⟨a, xs, rfl, h1, r1⟩ := p1.tup e1.good
    exact ⟨a, xs, rfl, .inr h1, go r1 k⟩
  · exact k.elim
/-! ### isinstance -/
def tyOf : D → Option String
  | .non => some "NoneType"
  | .bl _ => some "bool"
  | .int _ => some "int"
  | .str _ => some "str"
  | .lst _ => some "list"
  | .tup _ => some "tuple"
  | .dct => some "dict"
  | _ => none
def instB (t c : String) : Bool := t == c || (t == "bool" && c == "int")
def knownT : List String := ["NoneType", "bool", "int", "str", "list", "tuple", "dict"]
def knownC : List String := ["bool", "int", "str", "list", "tuple", "dict"]
theorem kit_all : (knownT.all fun t => knownC.all fun c => kitB t c == some (instB t c)) = true := by decide +kernel
theorem kit_known {t c : String} (ht : knownT.contains t = true) (hc : knownC.contains c = true) : PySem.W.kitOne K (.type t) (.type c) = some (instB t c) := by
  have h := List.all_eq_true.mp (List.all_eq_true.mp kit_all t (List.contains_iff_mem.mp ht)) c (List.contains_iff_mem.mp hc)
  exact kit_ty (by simpa using h)
theorem ty_known {d : D} {t : String} (h : tyOf d = some t) : knownT.contains t = true := by
  cases d <;> cases h <;> rfl
theorem tyx_of {F : Fz} {H : Hp} (g : Good F H) {v : V} {d : D} {t : String} (p : Pk K F H v d) (h : tyOf d = some t) : TyX K H v (.type t) := by
  cases p with
  | own hh _ _ _ => cases h; exact .base (.lst hh)
  | rep r =>
    cases r with
    | non => cases h; exact .base .non
    | bl b => cases h; exact .base (.bl b)
    | int i => cases h; exact .base (.int i)
    | str x => cases h; exact .base (.str x)
    | lst hh _ => cases h; exact .base (.lst (g.sub _ _ hh))
    | tup hh _ =>
      cases h
      rcases hh with hh | ⟨o, its, n, hk, hc, _⟩
      · exact .base (.tup (g.sub _ _ hh))
      · exact .kTuple hk hc
    | pot _ => cases h
    | ty _ => cases h
    | scr _ => cases h
    | dct hh => cases h; exact .base (.dK (g.sub _ _ hh))
    | fn _ => cases h
def isTys : List D → Option (List String)
  | [] => some []
  | .ty c :: ds => if knownC.contains c then (isTys ds).map (c :: ·) else none
  | _ => none
theorem clsV_of {F : Fz} : ∀ {ds : List D} {vs : List V} {cs : List String}, isTys ds = some cs → Reps K F vs ds → Paired ClsV vs (cs.map Value.type) ∧ ∀ c ∈ cs, knownC.contains c = true
  | [], _, cs, h, .nil => by cases h; exact ⟨.nil, fun _ h => nomatch h⟩
  | d :: ds, _, cs, h, .cons r rs => by
    cases d with
    | ty c =>
      have h : (if knownC.contains c then (isTys ds).map (c :: ·) else none) = some cs := h
      split at h
      · rename_i hc
        cases e : isTys ds with
        | none => rw [e] at h; cases h
        | some ms =>
          rw [e] at h
          cases h
          cases r
          obtain ⟨a, b⟩ := clsV_of e rs
          exact ⟨.cons (.ty c) a, fun z hz => (List.mem_cons.mp hz).elim (fun q => q ▸ hc) (b z)⟩
      · cases h
    | _ => cases h
theorem kitAny_known {t : String} (ht : knownT.contains t = true) : ∀ cs : List String, (∀ c ∈ cs, knownC.contains c = true) → PySem.W.kitAny K (.type t) (cs.map Value.type) = some (cs.any (instB t))
  | [], _ => rfl
  | c :: cs, h => by
    have h1 : PySem.W.kitOne K (.type t) (.type c) = some (instB t c) := kit_known ht (h c List.mem_cons_self)
    have h2 := kitAny_known ht cs fun z hz => h z (List.mem_cons_of_mem _ hz)
    show (match PySem.W.kitOne K (.type t) (.type c) with | some true => some true | some false => PySem.W.kitAny K (.type t) (cs.map Value.type) | none => none) = _
    rw [h1, h2, List.any_cons]
    cases instB t c <;> rfl
def fIsi : List D → Tree D
  | [d, .ty c] => withO (tyOf d) fun t => if knownC.contains c = true then leaf (.bl (instB t c)) else fail
  | [d, .tup cs] => withO (tyOf d) fun t => withO (isTys cs) fun cs => leaf (.bl (cs.any (instB t)))
  | _ => fail
def rIsiA (K : PySem.W.Frag) : List V → Hp → VK → Prop := fun xs H Q => rIsi K xs H Q ∨ rIsiT K xs H Q ∨ rIsiK K xs H Q
theorem f1_isi : Fn1 K (rIsiA K) fIsi := by
  intro F H vs ds Q g p q
  unfold fIsi at q
  split at q
  · rename_i d c
    obtain ⟨v, u, rfl, p1, p2⟩ := pks2 p
    unfold withO at q
    split at q
    · rename_i t ht
      have q : (if knownC.contains c = true then leaf (D.bl (instB t c)) else fail).all _ := q
      by_cases hc : knownC.contains c = true
      · rw [if_pos hc] at q
        have e := p2.ty
        subst e
        exact .inl ⟨v, .ty c, .type t, .type c, instB t c, rfl, .ty c, tyx_of g p1 ht, kit_known (ty_known ht) hc, q _ F H (Ext.refl g) (.bl _)⟩
      · rw [if_neg hc] at q; exact q.elim
    · exact q.elim
  · rename_i d cs
    obtain ⟨v, u, rfl, p1, p2⟩ := pks2 p
    unfold withO at q
    split at q
    · rename_i t ht
      split at q
      · rename_i ns hn
        cases p2 with
        | rep r =>
          cases r with
          | tup hs rs =>
            obtain ⟨k1, k2⟩ := clsV_of hn rs
            rcases hs with hs | ⟨⟨oc, od, dt, sl⟩, its, n, hk, hc, hd, _, rv⟩
            · exact .inr (.inl ⟨v, _, _, .type t, _, _, rfl, g.sub _ _ hs, k1, tyx_of g p1 ht, kitAny_known (ty_known ht) ns k2, q _ F H (Ext.refl g) (.bl _)⟩)
            · have e := ClsV.all k1 rv
              simp only at hc hd
              subst hc hd
              exact .inr (.inr ⟨v, _, od, its.toList, n, sl, .type t, _, rfl, by rw [Array.toArray_toList]; exact hk, tyx_of g p1 ht, by rw [e]; exact kitAny_known (ty_known ht) ns k2, q _ F H (Ext.refl g) (.bl _)⟩)
      · exact q.elim
    · exact q.elim
  · exact q.elim
theorem cr_isi : CallR X (.builtin "isinstance") (rIsiA X.K) := CallR.or call_isi (CallR.or call_isiT call_isiK)
end
end R

set_option Elab.async false
set_option linter.all false
set_option maxRecDepth 100000
set_option maxHeartbeats 1000000
namespace R
open PySem PySem.Spec PyProof.Rows L2
open Tree (leaf fail)
/-! ### zip and enumerate over lists and tuples in any mixture -/
inductive SK where
  | l | t
namespace SK
def iter : SK → Heap → Addr → Addr → Nat → Prop
  | .l, h, i, a, n => h.IsListIter i a n
  | .t, h, i, a, n => h.IsTupleIter i a n
def seq : SK → Heap → Addr → Array Value → Prop
  | .l, h, a, xs => h.IsList a xs
  | .t, h, a, xs => h.IsTuple a xs
def nm : SK → String
  | .l => "list_iterator"
  | .t => "tuple_iterator"
theorem iter_at {k : SK} {h h' : Heap} {i a : Addr} {n : Nat} (x : k.iter h i a n) (e : ∀ o, h.get? i = some o → h'.get? i = some o) : k.iter h' i a n := by
  cases k with
  | l => exact Heap.IsListIter.at x e
  | t => exact Heap.IsTupleIter.at x e
theorem seq_at {k : SK} {h h' : Heap} {a : Addr} {xs : Array Value} (x : k.seq h a xs) (e : ∀ o, h.get? a = some o → h'.get? a = some o) : k.seq h' a xs := by
  cases k with
  | l => obtain ⟨o, ho, r⟩ := x; exact ⟨o, e o ho, r⟩
  | t => obtain ⟨o, ho, r⟩ := x; exact ⟨o, e o ho, r⟩
theorem iter_obj {k : SK} {h : Heap} {i a : Addr} {n : Nat} (x : k.iter h i a n) : ∃ o, h.get? i = some o ∧ ∀ v, o.data ≠ .cell v := by
  cases k with
  | l => obtain ⟨o, ho, _, hd⟩ := x; exact ⟨o, ho, fun v z => by rw [hd] at z; cases z⟩
  | t => obtain ⟨o, ho, _, hd⟩ := x; exact ⟨o, ho, fun v z => by rw [hd] at z; cases z⟩
theorem seq_lt {k : SK} {h : Heap} {a : Addr} {xs : Array Value} (x : k.seq h a xs) : a < h.objs.size := by
  cases k with
  | l => obtain ⟨o, ho, _⟩ := x; exact Heap.lt_size ho
  | t => obtain ⟨o, ho, _⟩ := x; exact Heap.lt_size ho
section
variable {prog : Program} {w : World} {A : Around} {E : Value → Shared → Prop} {s : Shared}
theorem item {k : SK} {i a : Addr} {n : Nat} {xs : Array Value} {x : Value} {Q : Value → Shared → Prop} (hi : k.iter s.heap i a n) (ha : k.seq s.heap a xs) (hx : xs[n]? = some x)
    (hQ : ∀ h', k.iter h' i a (n + 1) → Heap.SameBut i s.heap h' → Q x { s with heap := h' }) : wpAny (model prog w) A (Builtin.SmallTypes.nextOf (.ref i)) Q E s := by
  cases k with
  | l => exact wpAny_nextOf_list_item hi ha hx hQ
  | t => exact RZ.nextOf_tuple_item hi ha hx hQ
theorem done {k : SK} {i a : Addr} {n : Nat} {xs : Array Value} {Q : Value → Shared → Prop} (hh : A.handled = none) (hi : k.iter s.heap i a n) (ha : k.seq s.heap a xs) (hx : xs[n]? = none)
    (hE : ∀ h' e, Heap.ExtBut i s.heap h' → (∃ o, h'.get? e = some o ∧ o.cls = .type "StopIteration") → E (.ref e) { s with heap := h' }) : wpAny (model prog w) A (Builtin.SmallTypes.nextOf (.ref i)) Q E s := by
  cases k with
  | l => exact wpAny_nextOf_list_end hh hi ha hx hE
  | t => exact RZ.nextOf_tuple_end hh hi ha hx hE
theorem start {k : SK} {a : Addr} {xs : Array Value} {Q : Value → Shared → Prop} (ha : k.seq s.heap a xs) (h : Q (.ref s.heap.objs.size) { s with heap := s.heap.push { cls := .type k.nm, data := .fields #[.ref a, .int 0 0] } }) :
    wpAny (model prog w) A (pyIter (.ref a)) Q E s := by
  cases k with
  | l => exact wpAny_pyIter_list ha h
  | t => exact wpAny_pyIter_tuple ha h
theorem fresh {k : SK} {h : Heap} {i a : Addr} (e : h.get? i = some { cls := .type k.nm, data := .fields #[.ref a, .int 0 0] }) : k.iter h i a 0 := by
  cases k with
  | l => exact ⟨_, e, rfl, rfl⟩
  | t => exact ⟨_, e, rfl, rfl⟩
end
end SK

section
variable {prog : Program} {w : World} {A : Around} {E : Value → Shared → Prop} {s : Shared}
variable {z TI TO i1 i2 l1 l2 : Addr} {k1 k2 : SK} {n : Nat} {xs ys : Array Value} {x y a b : Value}
theorem mixed_item {Q : Value → Shared → Prop} (D : ZipApart z TI TO i1 i2 l1 l2) (hz : IsZip s.heap z TI TO .none) (hTI : IsPair s.heap TI (.ref i1) (.ref i2)) (hTO : IsPair s.heap TO a b)
    (h1 : k1.iter s.heap i1 l1 n) (h2 : k2.iter s.heap i2 l2 n) (g1 : k1.seq s.heap l1 xs) (g2 : k2.seq s.heap l2 ys) (hx : xs[n]? = some x) (hy : ys[n]? = some y)
    (hQ : ∀ h', IsZip h' z TI TO (rawInt s.heap.objs.size) → IsPair h' TO x y → k1.iter h' i1 l1 (n + 1) → k2.iter h' i2 l2 (n + 1) → IsPair h' s.heap.objs.size x y →
      (∀ c o, c ∉ [z, TO, i1, i2] → s.heap.get? c = some o → h'.get? c = some o) → Q (.ref s.heap.objs.size) { s with heap := h' }) :
    wpAny (model prog w) A (Builtin.«zip.__next__» ⟨[.ref z], []⟩) (fun fin s' => ∃ v, fin = .done (.ret v) ∧ Q v s') E s := by
  show wpAny _ _ (field (.ref z) 2 >>= _) _ _ _
  refine wpAny_bind (wpAny_field hz rfl (x := .bool false) rfl ?_)
  show wpAny _ _ (field (.ref z) 3 >>= _) _ _ _
  refine wpAny_bind (wpAny_field hz rfl (x := .ref TI) rfl (wpAny_bind (wpAny_seqItems hTI rfl ?_)))
  show wpAny _ _ (Builtin.SmallTypes.ownedTupleIsFree (.ref z) >>= _) _ _ _
  unfold Builtin.SmallTypes.ownedTupleIsFree
  refine wpAny_bind (wpAny_bind (wpAny_field hz rfl (x := .none) rfl (wpAny_pure ?_)))
  simp only [if_true]
  refine wpAny_bind (wpAny_rule (wpAny_bind (wpAny_field hz rfl (x := .ref TO) rfl ?_)))
  refine wpAny_bind (wpAny_setField_rec hz (by simp) fun ha za sa => ?_)
  have za : IsZip ha z TI TO .ellipsis := za
  have ka : ∀ c o, c ≠ z → s.heap.get? c = some o → ha.get? c = some o := fun c o ne e => (sa.2 c ne).trans e
  refine wpAny_bind ?_
  simp only [List.zipIdx_cons, List.zipIdx_nil, List.forIn_cons, List.forIn_nil]
  refine wpAny_bind (wpAny_bind (wpAny_onRaise (wpAny_bind (m := Builtin.SmallTypes.nextOf (.ref i1)) (SK.item (SK.iter_at h1 fun o => ka _ o D.i1z) (SK.seq_at g1 fun o => ka _ o D.l1z) hx fun hb j1 sb => wpAny_pure ?_))))
  have kb : ∀ c o, c ≠ z → c ≠ i1 → s.heap.get? c = some o → hb.get? c = some o := fun c o n1 n2 e => (sb.2 c n2).trans (ka c o n1 e)
  have pb : IsPair hb TO a b := kb _ _ D.TOz D.TOi1 hTO
  refine wpAny_bind (wpAny_seqItems pb rfl (wpAny_bind (wpAny_updateSeq_pair pb fun hc pc sc => ?_)))
  have pc : IsPair hc TO x b := pc
  have kc : ∀ c o, c ≠ z → c ≠ i1 → c ≠ TO → s.heap.get? c = some o → hc.get? c = some o := fun c o n1 n2 n3 e => (sc.2 c n3).trans (kb c o n1 n2 e)
  refine wpAny_bind (wpAny_letGo (wpAny_pure ?_))
  refine wpAny_bind (wpAny_bind (wpAny_onRaise (wpAny_bind (m := Builtin.SmallTypes.nextOf (.ref i2)) (SK.item (SK.iter_at h2 fun o => kc _ o D.i2z D.i12.symm D.TOi2.symm) (SK.seq_at g2 fun o => kc _ o D.l2z D.l2i1 D.l2TO) hy fun hd j2 sd => wpAny_pure ?_))))
  have kd : ∀ c o, c ≠ z → c ≠ i1 → c ≠ TO → c ≠ i2 → s.heap.get? c = some o → hd.get? c = some o := fun c o n1 n2 n3 n4 e => (sd.2 c n4).trans (kc c o n1 n2 n3 e)
  have pd : IsPair hd TO x b := (sd.2 _ D.TOi2).trans pc
  refine wpAny_bind (wpAny_seqItems pd rfl (wpAny_bind (wpAny_updateSeq_pair pd fun he pe se => ?_)))
  have pe : IsPair he TO x y := pe
  refine wpAny_bind (wpAny_letGo (wpAny_pure (wpAny_pure ?_)))
  refine wpAny_bind (wpAny_seqItems pe rfl (wpAny_bind (wpAny_newTuple ?_)))
  have size : he.objs.size = s.heap.objs.size := by rw [se.1, sd.1, sc.1, sb.1, sa.1]
  have ze : IsZip he z TI TO .ellipsis := (se.2 _ D.TOz.symm).trans ((sd.2 _ D.i2z.symm).trans ((sc.2 _ D.TOz.symm).trans ((sb.2 _ D.i1z.symm).trans za)))
  have q1 : k1.iter he i1 l1 (n + 1) := SK.iter_at j1 fun o e => (se.2 _ D.TOi1.symm).trans ((sd.2 _ D.i12).trans ((sc.2 _ D.TOi1.symm).trans e))
  have q2 : k2.iter he i2 l2 (n + 1) := SK.iter_at j2 fun o e => (se.2 _ D.TOi2.symm).trans e
  have zlt : z < he.objs.size := Heap.lt_size ze
  show wpAny _ _ (Builtin.SmallTypes.ownedTupleHandOut (.ref z) (.ref he.objs.size) >>= _) _ _ _
  unfold Builtin.SmallTypes.ownedTupleHandOut
  have zf : IsZip (he.push { cls := .type "tuple", data := .seq #[x, y] }) z TI TO .ellipsis := Heap.get?_push_of_some _ ze
  refine wpAny_bind (wpAny_bind (wpAny_setField_rec zf (by simp) fun hg zg sg => ?_))
  have zg : IsZip hg z TI TO (rawInt he.objs.size) := zg
  refine wpAny_setField_rec zg (by simp) fun hh zh sh => ?_
  have zh : IsZip hh z TI TO (rawInt he.objs.size) := zh
  have up : ∀ c o, c ≠ z → he.get? c = some o → hh.get? c = some o := fun c o ne e => (sh.2 c ne).trans ((sg.2 c ne).trans (Heap.get?_push_of_some _ e))
  have new : IsPair hh he.objs.size x y := (sh.2 _ (Nat.ne_of_gt zlt)).trans ((sg.2 _ (Nat.ne_of_gt zlt)).trans (Heap.get?_push_size _ rfl))
  rw [size] at zh new
  refine wpAny_pure ⟨_, rfl, ?_⟩
  show Q (.ref he.objs.size) _
  rw [size]
  refine hQ hh zh (up _ _ D.TOz pe) (SK.iter_at q1 fun o e => up _ o D.i1z e) (SK.iter_at q2 fun o e => up _ o D.i2z e) new fun c o nm e => ?_
  simp only [List.mem_cons, List.not_mem_nil, or_false, not_or] at nm
  exact up c o nm.1 ((se.2 c nm.2.1).trans (kd c o nm.1 nm.2.2.1 nm.2.1 nm.2.2.2 e))
theorem mixed_end {Q : Fin → Shared → Prop} (hh : A.handled = none) (D : ZipApart z TI TO i1 i2 l1 l2) (hz : IsZip s.heap z TI TO .none) (hTI : IsPair s.heap TI (.ref i1) (.ref i2)) (hTO : IsPair s.heap TO a b)
    (h1 : k1.iter s.heap i1 l1 n) (h2 : k2.iter s.heap i2 l2 n) (g1 : k1.seq s.heap l1 xs) (g2 : k2.seq s.heap l2 ys) (hend : xs[n]? = none ∨ ys[n]? = none)
    (hE : ∀ h' e, (∀ c o, c ∉ [z, TO, i1, i2] → s.heap.get? c = some o → h'.get? c = some o) → (∃ o, h'.get? e = some o ∧ o.cls = .type "StopIteration") → E (.ref e) { s with heap := h' }) :
    wpAny (model prog w) A (Builtin.«zip.__next__» ⟨[.ref z], []⟩) Q E s := by
  show wpAny _ _ (field (.ref z) 2 >>= _) _ _ _
  refine wpAny_bind (wpAny_field hz rfl (x := .bool false) rfl ?_)
  show wpAny _ _ (field (.ref z) 3 >>= _) _ _ _
  refine wpAny_bind (wpAny_field hz rfl (x := .ref TI) rfl (wpAny_bind (wpAny_seqItems hTI rfl ?_)))
  show wpAny _ _ (Builtin.SmallTypes.ownedTupleIsFree (.ref z) >>= _) _ _ _
  unfold Builtin.SmallTypes.ownedTupleIsFree
  refine wpAny_bind (wpAny_bind (wpAny_field hz rfl (x := .none) rfl (wpAny_pure ?_)))
  simp only [if_true]
  refine wpAny_bind (wpAny_rule (wpAny_bind (wpAny_field hz rfl (x := .ref TO) rfl ?_)))
  refine wpAny_bind (wpAny_setField_rec hz (by simp) fun ha za sa => ?_)
  have za : IsZip ha z TI TO .ellipsis := za
  have ka : ∀ c o, c ≠ z → s.heap.get? c = some o → ha.get? c = some o := fun c o ne e => (sa.2 c ne).trans e
  refine wpAny_bind ?_
  simp only [List.zipIdx_cons, List.zipIdx_nil, List.forIn_cons, List.forIn_nil]
  have h1a := SK.iter_at h1 fun o => ka _ o D.i1z
  have g1a := SK.seq_at g1 fun o => ka _ o D.l1z
  refine wpAny_bind (wpAny_bind (wpAny_onRaise ?_))
  cases hx : xs[n]? with
  | none =>
    refine wpAny_bind (m := Builtin.SmallTypes.nextOf (.ref i1)) (SK.done hh h1a g1a hx fun hb e xb ⟨oe, hoe, hce⟩ => ?_)
    have zb : IsZip hb z TI TO .ellipsis := xb _ _ D.i1z.symm za
    have ez : e ≠ z := fun q => by rw [q, zb] at hoe; cases hoe; simp at hce
    refine wpAny_setField_rec zb (by simp) fun hc _ sc => hE hc e (fun c o nm q => ?_) ⟨oe, (sc.2 e ez).trans hoe, hce⟩
    simp only [List.mem_cons, List.not_mem_nil, or_false, not_or] at nm
    exact (sc.2 c nm.1).trans (xb c o nm.2.2.1 (ka c o nm.1 q))
  | some x =>
    have hy : ys[n]? = none := hend.elim (fun q => by rw [hx] at q; cases q) fun q => q
    refine wpAny_bind (m := Builtin.SmallTypes.nextOf (.ref i1)) (SK.item h1a g1a hx fun hb j1 sb => wpAny_pure ?_)
    have kb : ∀ c o, c ≠ z → c ≠ i1 → s.heap.get? c = some o → hb.get? c = some o := fun c o n1 n2 e => (sb.2 c n2).trans (ka c o n1 e)
    have pb : IsPair hb TO a b := kb _ _ D.TOz D.TOi1 hTO
    refine wpAny_bind (wpAny_seqItems pb rfl (wpAny_bind (wpAny_updateSeq_pair pb fun hc pc sc => ?_)))
    have kc : ∀ c o, c ≠ z → c ≠ i1 → c ≠ TO → s.heap.get? c = some o → hc.get? c = some o := fun c o n1 n2 n3 e => (sc.2 c n3).trans (kb c o n1 n2 e)
    refine wpAny_bind (wpAny_letGo (wpAny_pure ?_))
    refine wpAny_bind (wpAny_bind (wpAny_onRaise ?_))
    refine wpAny_bind (m := Builtin.SmallTypes.nextOf (.ref i2)) (SK.done hh (SK.iter_at h2 fun o => kc _ o D.i2z D.i12.symm D.TOi2.symm) (SK.seq_at g2 fun o => kc _ o D.l2z D.l2i1 D.l2TO) hy fun hd e xd ⟨oe, hoe, hce⟩ => ?_)
    have zd : IsZip hd z TI TO .ellipsis := xd _ _ D.i2z.symm ((sc.2 _ D.TOz.symm).trans ((sb.2 _ D.i1z.symm).trans za))
    have ez : e ≠ z := fun q => by rw [q, zd] at hoe; cases hoe; simp at hce
    refine wpAny_setField_rec zd (by simp) fun he _ se => hE he e (fun c o nm q => ?_) ⟨oe, (se.2 e ez).trans hoe, hce⟩
    simp only [List.mem_cons, List.not_mem_nil, or_false, not_or] at nm
    exact (se.2 c nm.1).trans (xd c o nm.2.2.2 (kc c o nm.1 nm.2.2.1 nm.2.1 q))
end
/-- what a zip's record looks like at its i-th turn -/
structure ZSt (k1 k2 : SK) (z TI TO i1 i2 l1 l2 : Addr) (i : Nat) (h : Heap) : Prop where
  z : IsZip h z TI TO .none
  ti : IsPair h TI (.ref i1) (.ref i2)
  to : ∃ x y, IsPair h TO x y
  a : k1.iter h i1 l1 i
  b : k2.iter h i2 l2 i
def sq (K : PySem.W.Frag) : SK → Hp → Addr → List V → Prop
  | .l, H, a, xs => SqL K H a xs
  | .t, H, a, xs => SqT K H a xs
theorem Inv.sqs {X : Cx} {pins : List (Addr × Obj)} {σ : L2.St} {H : Hp} {s : Shared} (I : Inv X pins σ H s) {k : SK} {a : Addr} {xs : List V} (h : sq X.K k H a xs) : ∃ its : List Value, Vals xs its ∧ k.seq s.heap a its.toArray := by
  cases k with
  | l => obtain ⟨its, r, p, _⟩ := I.list h; exact ⟨its, r, p.isList⟩
  | t => obtain ⟨its, r, p, _⟩ := I.tuple h; exact ⟨its, r, p⟩
theorem Inv.sq_inj {X : Cx} {pins : List (Addr × Obj)} {σ : L2.St} {H : Hp} {s : Shared} (I : Inv X pins σ H s) {k : SK} {a : Addr} {xs ys : List V} (h : sq X.K k H a xs) (h' : sq X.K k H a ys) : xs = ys := by
  cases k with
  | l => exact I.list_inj h h'
  | t => exact I.tuple_inj h h'
def Izm (K : PySem.W.Frag) (k1 k2 : SK) (a b : Addr) : It :=
  ⟨fun i H => ∃ (xs ys : List V) (x y : V), sq K k1 H a xs ∧ sq K k2 H b ys ∧ xs[i]? = some x ∧ ys[i]? = some y,
    fun i H v H' => ∃ T x y, v = .ref T ∧ H T = none ∧ H' = upd H T (.tup [x, y]) ∧ (∀ xs, sq K k1 H a xs → xs[i]? = some x) ∧ ∀ ys, sq K k2 H b ys → ys[i]? = some y,
    fun i H => ∃ xs ys : List V, sq K k1 H a xs ∧ sq K k2 H b ys ∧ (xs.length ≤ i ∨ ys.length ≤ i)⟩
section
variable {P : Program} {w : World} {K : PySem.W.Frag} {elts : List Expr} {kk : Nat} {tpos : Pos} {k1 k2 : SK} {a b z TI TO i1 i2 : Addr}
theorem sub4 {c z TI TO i1 i2 : Addr} (h : c ∈ [z, TO, i1, i2]) : c ∈ [z, TI, TO, i1, i2] := by
  simp only [List.mem_cons, List.not_mem_nil, or_false] at h
  rcases h with rfl | rfl | rfl | rfl <;> simp
theorem turn_mixed (D : ZipApart z TI TO i1 i2 a b) : Turn P w K (.Tuple elts kk tpos) (Izm K k1 k2 a b) [z, TI, TO, i1, i2] z (ZSt k1 k2 z TI TO i1 i2 a b) where
  mem := by simp
  obj := fun i h st c hc => by
    obtain ⟨x, y, to⟩ := st.to
    simp only [List.mem_cons, List.not_mem_nil, or_false] at hc
    rcases hc with q | q | q | q | q
    · rw [q]; exact ⟨_, st.z, fun v q => nomatch q⟩
    · rw [q]; exact ⟨_, st.ti, fun v q => nomatch q⟩
    · rw [q]; exact ⟨_, to, fun v q => nomatch q⟩
    · rw [q]; exact SK.iter_obj st.a
    · rw [q]; exact SK.iter_obj st.b
  keep := fun i h h' st k => by
    obtain ⟨x, y, to⟩ := st.to
    exact ⟨k z (by simp) _ st.z, k TI (by simp) _ st.ti, ⟨x, y, k TO (by simp) _ to⟩, SK.iter_at st.a fun o q => k i1 (by simp) o q, SK.iter_at st.b fun o q => k i2 (by simp) o q⟩
  item := by
    intro X hP hw hK hc i pins s σ H E I hf st hg
    subst hP hw hK
    obtain ⟨x0, y0, to⟩ := st.to
    obtain ⟨xs, ys, x, y, qx, qy, hx, hy⟩ := hg
    obtain ⟨its, r1, p1⟩ := Inv.sqs I qx
    obtain ⟨jts, r2, p2⟩ := Inv.sqs I qy
    obtain ⟨u, hu, ru⟩ := r1.get hx
    obtain ⟨u2, hu2, ru2⟩ := r2.get hy
    have hT : s.TypeIs (.ref z) "zip" := ⟨_, st.z, rfl⟩
    have zl : z < s.heap.objs.size := Heap.lt_size st.z
    unfold pyNext
    refine wpAny_bind (wpAny_attempt (wpAny_callSpecial?_slot (name := Str.ofString "__next__") hT F.slot_zip_next (wpAny_call_entry F.slot_zip_next hT F.entry_zip_next
      (mixed_item D st.z st.ti to st.a st.b p1 p2 (x := u) (y := u2) (by simpa using hu) (by simpa using hu2) fun h' z' to' a' b' new keep => wpAny_pure ?_) (F.args_zip_next_1 _))))
    refine ⟨_, rfl, wpAny_letOwnedTupleGo_zip (s := { s with heap := h' }) z' fun g' gz sb => ?_⟩
    have new2 : g'.get? s.heap.objs.size = some { cls := .type "tuple", data := .seq #[u, u2] } := (sb.2 _ (Nat.ne_of_gt zl)).trans new
    have lt : ∀ c ∈ [z, TI, TO, i1, i2], c < s.heap.objs.size := fun c hcm => by
      simp only [List.mem_cons, List.not_mem_nil, or_false] at hcm
      rcases hcm with q | q | q | q | q
      · rw [q]; exact zl
      · rw [q]; exact Heap.lt_size st.ti
      · rw [q]; exact Heap.lt_size to
      · obtain ⟨o, e, _⟩ := SK.iter_obj st.a; rw [q]; exact Heap.lt_size e
      · obtain ⟨o, e, _⟩ := SK.iter_obj st.b; rw [q]; exact Heap.lt_size e
    have I1 : Inv X pins σ (upd H s.heap.objs.size (.tup [x, y])) { s with heap := g' } :=
      I.turnedNew (t' := s.toks) (ch := [z, TI, TO, i1, i2]) (fun c o hb q => (sb.2 c (fun e => hb (by simp [e]))).trans (keep c o (fun m => hb (sub4 m)) q)) hf (Nat.le_refl _)
        ⟨by show 2 ≤ sizeLine; decide, [u, u2], .cons ru (.cons ru2 .nil), ⟨_, new2, rfl, _, rfl⟩⟩
    refine ⟨.ref s.heap.objs.size, _, I1, rfl, ⟨_, x, y, rfl, I.hok.fresh (Nat.le_refl _), rfl, fun l hl => by rw [Inv.sq_inj I hl qx]; exact hx, fun l hl => by rw [Inv.sq_inj I hl qy]; exact hy⟩, ⟨gz, ?_, ⟨u, u2, (sb.2 _ D.TOz).trans to'⟩, SK.iter_at a' fun o q => (sb.2 _ D.i1z).trans q, SK.iter_at b' fun o q => (sb.2 _ D.i2z).trans q⟩, fun c hcm => ?_⟩
    · exact (sb.2 _ D.TIz).trans (keep _ _ (by simp [D.TIz, D.TITO, D.TIi1, D.TIi2]) st.ti)
    · rw [upd_ne (Nat.ne_of_lt (lt c hcm))]
      exact (hf c hcm).1
  done := by
    intro X hP hw hK hc i pins s σ H E I hf st hg
    subst hP hw hK
    obtain ⟨x0, y0, to⟩ := st.to
    obtain ⟨xs, ys, qx, qy, hend⟩ := hg
    obtain ⟨its, r1, p1⟩ := Inv.sqs I qx
    obtain ⟨jts, r2, p2⟩ := Inv.sqs I qy
    have l1 := r1.length
    have l2 := r2.length
    have hT : s.TypeIs (.ref z) "zip" := ⟨_, st.z, rfl⟩
    have he : its.toArray[i]? = none ∨ jts.toArray[i]? = none := hend.elim (fun q => .inl (by simp; omega)) fun q => .inr (by simp; omega)
    unfold pyNext
    refine wpAny_bind (wpAny_attempt (wpAny_callSpecial?_slot (name := Str.ofString "__next__") hT F.slot_zip_next (wpAny_call_entry F.slot_zip_next hT F.entry_zip_next
      (mixed_end (I.ok.hd hc) D st.z st.ti to st.a st.b p1 p2 he fun h' e keep ⟨o, ho, hco⟩ => ?_) (F.args_zip_next_1 _))))
    refine wpAny_bind (wpAny_isInstance (T := "StopIteration") (b := true) ⟨o, ho, hco⟩ isSubtype_stop (wpAny_pure ⟨rfl, ?_⟩))
    exact I.turnedL (t' := s.toks) (ch := [z, TI, TO, i1, i2]) (fun c o hb q => keep c o (fun m => hb (sub4 m)) q) hf
  self := fun A i s Q E st h => wpAny_pyIter_zip st.z h
end
section
variable {prog : Program} {w : World} {A : Around} {E : Value → Shared → Prop} {s : Shared}
theorem zip_new {k1 k2 : SK} (l1 l2 : Addr) (xs ys : Array Value) :
    Meets (Builtin.«zip.__new__» ⟨[.type "zip", .ref l1, .ref l2], []⟩) (fun _ R s => k1.seq s.heap l1 xs ∧ k2.seq s.heap l2 ys ∧
      ∀ h', ZSt k1 k2 (s.heap.objs.size + 4) (s.heap.objs.size + 2) (s.heap.objs.size + 3) s.heap.objs.size (s.heap.objs.size + 1) l1 l2 0 h' → (∀ c o, s.heap.get? c = some o → h'.get? c = some o) → R (.ok (.ret (.ref (s.heap.objs.size + 4)))) { s with heap := h' }) :=
  .of_wp fun prog w A R s h => by
    obtain ⟨hp, g, d, tk, os⟩ := s
    obtain ⟨g1, g2, h⟩ := h
    have hsub := sub_zip
    let o1 : Obj := { cls := .type k1.nm, data := .fields #[.ref l1, .int 0 0] }
    let o2 : Obj := { cls := .type k2.nm, data := .fields #[.ref l2, .int 0 0] }
    have u1 : ∀ {A : Around} {E : Value → Shared → Prop} {Q : Value → Shared → Prop}, Q (.ref hp.objs.size) ⟨hp.push o1, g, d, tk, os⟩ → wpAny (model prog w) A (pyIter (.ref l1)) Q E ⟨hp, g, d, tk, os⟩ := fun {A E Q} q => SK.start (s := ⟨hp, g, d, tk, os⟩) g1 q
    have u2 : ∀ {A : Around} {E : Value → Shared → Prop} {Q : Value → Shared → Prop}, Q (.ref (hp.push o1).objs.size) ⟨(hp.push o1).push o2, g, d, tk, os⟩ → wpAny (model prog w) A (pyIter (.ref l2)) Q E ⟨hp.push o1, g, d, tk, os⟩ := fun {A E Q} q => SK.start (s := ⟨hp.push o1, g, d, tk, os⟩) (SK.seq_at g2 fun o e => Heap.get?_push_of_some _ e) q
    wp_walk using u1, u2
    refine ⟨_, rfl, ?_⟩
    let o3 : Obj := { cls := .type "tuple", data := .seq #[.ref hp.objs.size, .ref (hp.push o1).objs.size] }
    let o4 : Obj := { cls := .type "tuple", data := .seq #[.none, .none] }
    have n1 : (hp.push o1).objs.size = hp.objs.size + 1 := Heap.size_push ..
    have n2 : ((hp.push o1).push o2).objs.size = hp.objs.size + 2 := by rw [Heap.size_push, n1]
    have n3 : (((hp.push o1).push o2).push o3).objs.size = hp.objs.size + 3 := by rw [Heap.size_push, n2]
    have n4 : ((((hp.push o1).push o2).push o3).push o4).objs.size = hp.objs.size + 4 := by rw [Heap.size_push, n3]
    have z4 : Value.ref ((((hp.push o1).push o2).push o3).push o4).objs.size = .ref (hp.objs.size + 4) := by rw [n4]
    let o5 : Obj := { cls := .type "zip", data := .fields #[.none, .bool false, .bool false, .ref ((hp.push o1).push o2).objs.size, .ref (((hp.push o1).push o2).push o3).objs.size] }
    have e5 : o5 = { cls := .type "zip", data := .fields #[.none, .bool false, .bool false, .ref (hp.objs.size + 2), .ref (hp.objs.size + 3)] } := by simp only [o5, n2, n3]
    show R (.ok (.ret (.ref ((((hp.push o1).push o2).push o3).push o4).objs.size))) ⟨((((hp.push o1).push o2).push o3).push o4).push o5, g, d, tk, os⟩
    rw [n4]
    refine h _ ⟨?_, ?_, ⟨.none, .none, ?_⟩, ?_, ?_⟩ fun c o e => ?_
    · have e := Heap.get?_push_size ((((hp.push o1).push o2).push o3).push o4) (o := o5) rfl
      rw [n4] at e
      exact e.trans (congrArg some e5)
    · have e := Heap.get?_push_size ((hp.push o1).push o2) (o := o3) rfl
      rw [n2] at e
      have e : ((hp.push o1).push o2 |>.push o3).get? (hp.objs.size + 2) = some { cls := .type "tuple", data := .seq #[.ref hp.objs.size, .ref (hp.objs.size + 1)] } := by rw [e]; simp only [o3, n1]
      exact Heap.get?_push_of_some _ (Heap.get?_push_of_some _ e)
    · have e := Heap.get?_push_size (((hp.push o1).push o2).push o3) (o := o4) rfl
      rw [n3] at e
      exact Heap.get?_push_of_some _ e
    · exact SK.iter_at (SK.fresh (Heap.get?_push_size hp (o := o1) rfl)) fun o e => Heap.get?_push_of_some _ (Heap.get?_push_of_some _ (Heap.get?_push_of_some _ (Heap.get?_push_of_some _ e)))
    · have e := Heap.get?_push_size (hp.push o1) (o := o2) rfl
      rw [n1] at e
      exact SK.iter_at (SK.fresh e) fun o e => Heap.get?_push_of_some _ (Heap.get?_push_of_some _ (Heap.get?_push_of_some _ e))
    · exact Heap.get?_push_of_some _ (Heap.get?_push_of_some _ (Heap.get?_push_of_some _ (Heap.get?_push_of_some _ (Heap.get?_push_of_some _ e))))
theorem call_zip {k1 k2 : SK} {l1 l2 : Addr} {xs ys : Array Value} {Q : Value → Shared → Prop} (h1 : k1.seq s.heap l1 xs) (h2 : k2.seq s.heap l2 ys)
    (h : ∀ h', ZSt k1 k2 (s.heap.objs.size + 4) (s.heap.objs.size + 2) (s.heap.objs.size + 3) s.heap.objs.size (s.heap.objs.size + 1) l1 l2 0 h' → (∀ c o, s.heap.get? c = some o → h'.get? c = some o) → Q (.ref (s.heap.objs.size + 4)) { s with heap := h' }) :
    wpAny (model prog w) A (call (.type "zip") [.ref l1, .ref l2]) Q E s :=
  callType_new F.called_zip (by decide) (F.typeCall_zip_2 _ _) (F.newCall_zip_2 _ _) (fun obj => F.args_object_init_3 obj _ _) F.entry_zip_new
    (zip_new l1 l2 xs ys) ⟨h1, h2, fun h' st keep => ⟨⟨_, st.z, rfl⟩, h h' st keep⟩⟩
end
def iZm (K : PySem.W.Frag) (ta : TA) : TI := fun σ H R => ta σ H fun vs H1 => ∃ a b k1 k2 xs ys, vs = [.ref a, .ref b] ∧ sq K k1 H1 a xs ∧ sq K k2 H1 b ys ∧ R (Izm K k1 k2 a b) H1
theorem pi_zm {X : Cx} {e e2 : Expr} {ta : TA} {p pos tpos : Pos} {elts : List Expr} {kk : Nat} (hg : Gl X "zip") (hm : X.mg "zip" = none) (ha : PA X [e, e2] ta)
    (hs : starEach [e, e2] X.env = (false, eval e X.env) :: starEach [e2] X.env := by rfl) (hpl : (backTo pos (starEach [e2] X.env)).any (·.1) = false := by rfl) :
    PI X (.Tuple elts kk tpos) (.Call (.Name "zip" p) [e, e2] [] pos) (iZm X.K ta) := by
  refine ⟨fun pins s σ H R I h => ?_⟩
  refine Call_ (ld_blt I hg hm PyProof.Rows.boot_zip (PyProof.Rows.callWith_type1 (thn (ha.run pos pins s σ H _ I h) fun us s1 ⟨vs, H1, I1, r1, a, b, k1, k2, xs, ys, ex, qx, qy, q⟩ => ?_) hs hpl))
  subst ex
  cases r1 with
  | cons r rr =>
    cases rr with
    | cons r' rr =>
      cases rr
      cases r
      cases r'
      obtain ⟨its, _, p1⟩ := Inv.sqs I1 qx
      obtain ⟨jts, _, p2⟩ := Inv.sqs I1 qy
      refine call_zip p1 p2 fun h' st keep => wpAny_pyIter_zip st.z ?_
      refine ⟨s1.heap.objs.size + 4, [s1.heap.objs.size + 4, s1.heap.objs.size + 2, s1.heap.objs.size + 3, s1.heap.objs.size, s1.heap.objs.size + 1], _, _, H1, rfl, I1.kept (t' := s1.toks) keep, turn_mixed (PySem.W.ktu_apart s1.heap.objs.size a b (SK.seq_lt p1) (SK.seq_lt p2)), st, fun c hc => ?_, q⟩
      have hle : s1.heap.objs.size ≤ c := by
        simp only [List.mem_cons, List.not_mem_nil, or_false] at hc
        rcases hc with z | z | z | z | z <;> (rw [z]; first | exact Nat.le_add_right _ _ | exact Nat.le_refl _)
      exact I1.fpOk hle (I1.hok.fresh hle)
end R

set_option Elab.async false
set_option linter.all false
set_option maxRecDepth 100000
set_option maxHeartbeats 1000000
namespace R
open PySem PySem.Spec PyProof.Rows L2
open Tree (leaf fail)
section
variable {prog : Program} {w : World} {A : Around} {E : Value → Shared → Prop} {s : Shared} {e it l : Addr} {k : SK} {i : Nat} {xs : Array Value} {x old : Value}
theorem enum_item {Q : Value → Shared → Prop} (he : IsEnum s.heap e it i old) (hi : k.iter s.heap it l i) (hl : k.seq s.heap l xs) (hx : xs[i]? = some x) (ne : e ≠ it)
    (hQ : ∀ h', IsEnumOut h' e it ((i : Int) + 1) x s.heap.objs.size → k.iter h' it l (i + 1) → h'.get? s.heap.objs.size = some { cls := .type "tuple", data := .seq #[.int i s.toks, x] } →
      (∀ b o, b ≠ e → b ≠ it → s.heap.get? b = some o → h'.get? b = some o) → Q (.ref s.heap.objs.size) { s with heap := h', toks := s.toks + 1 }) :
    wpAny (model prog w) A (Builtin.«enumerate.__next__» ⟨[.ref e], []⟩) (fun fin s' => ∃ v, fin = .done (.ret v) ∧ Q v s') E s := by
  obtain ⟨hp, g, d, tk, os⟩ := s
  have el : e < hp.objs.size := Heap.lt_size he
  show wpAny _ _ (field (.ref e) 2 >>= _) _ _ _
  refine wpAny_bind (wpAny_field he rfl (x := .ref it) rfl (wpAny_bind (m := Builtin.SmallTypes.nextOf (.ref it)) (SK.item hi hl hx fun ha j sa => ?_)))
  have sa : Heap.SameBut it hp ha := sa
  have ea : IsEnum ha e it i old := (sa.2 e ne).trans he
  show wpAny _ _ (field (.ref e) 3 >>= _) _ _ ⟨ha, g, d, tk, os⟩
  refine wpAny_bind (wpAny_field ea rfl (x := rawInt i) rfl ?_)
  show wpAny _ _ (field (.ref e) 4 >>= _) _ _ ⟨ha, g, d, tk, os⟩
  refine wpAny_bind (wpAny_field ea rfl (x := .none) rfl ?_)
  show wpAny _ _ (mkInt i >>= _) _ _ ⟨ha, g, d, tk, os⟩
  refine wpAny_bind (wpAny_mkInt ?_)
  show wpAny _ _ (setField (.ref e) 3 (rawInt ((i : Int) + 1)) >>= _) _ _ ⟨ha, g, d, tk + 1, os⟩
  refine wpAny_bind (wpAny_setField_rec ea (by simp) fun hb eb sb => ?_)
  have eb : IsEnum hb e it ((i : Int) + 1) old := eb
  have sb : Heap.SameBut e ha hb := sb
  show wpAny _ _ (setField (.ref e) 4 .none >>= _) _ _ ⟨hb, g, d, tk + 1, os⟩
  refine wpAny_bind (wpAny_setField_rec eb (by simp) fun hc ec sc => ?_)
  have ec : IsEnum hc e it ((i : Int) + 1) old := ec
  have sc : Heap.SameBut e hb hc := sc
  show wpAny _ _ (newTuple [.int i tk, x] >>= _) _ _ ⟨hc, g, d, tk + 1, os⟩
  refine wpAny_bind (wpAny_newTuple ?_)
  have size : hc.objs.size = hp.objs.size := by rw [sc.1, sb.1, sa.1]
  have kc : ∀ b o, b ≠ e → b ≠ it → hp.get? b = some o → hc.get? b = some o := fun b o n1 n2 q => (sc.2 b n1).trans ((sb.2 b n1).trans ((sa.2 b n2).trans q))
  have jc : k.iter hc it l (i + 1) := SK.iter_at j fun o q => (sc.2 it ne.symm).trans ((sb.2 it ne.symm).trans q)
  have new : (hc.push { cls := .type "tuple", data := .seq #[.int i tk, x] }).get? hp.objs.size = some { cls := .type "tuple", data := .seq #[.int i tk, x] } := by rw [← size]; exact Heap.get?_push_size _ rfl
  have ed : IsEnum (hc.push { cls := .type "tuple", data := .seq #[.int i tk, x] }) e it ((i : Int) + 1) old := Heap.get?_push_of_some _ ec
  have up : ∀ b o, hc.get? b = some o → (hc.push { cls := .type "tuple", data := .seq #[.int i tk, x] }).get? b = some o := fun b o q => Heap.get?_push_of_some _ q
  generalize hc.push { cls := .type "tuple", data := .seq #[.int i tk, x] } = hd at new ed up
  show wpAny _ _ (Builtin.SmallTypes.ownedTupleIsFree (.ref e) >>= _) _ _ ⟨hd, g, d, tk + 1, os⟩
  rw [size]
  unfold Builtin.SmallTypes.ownedTupleIsFree
  refine wpAny_bind (wpAny_bind (wpAny_field ed rfl (x := .none) rfl (wpAny_pure ?_)))
  simp only [if_true]
  refine wpAny_bind (wpAny_rule (wpAny_bind (wpAny_field ed rfl (x := old) rfl (wpAny_bind (wpAny_setField_rec ed (by simp) fun hf ef sf => ?_)))))
  have ef : IsEnum hf e it ((i : Int) + 1) x := ef
  have sf : Heap.SameBut e hd hf := sf
  show wpAny _ _ (Builtin.SmallTypes.ownedTupleHandOut (.ref e) (.ref hp.objs.size) >>= _) _ _ ⟨hf, g, d, tk + 1, os⟩
  unfold Builtin.SmallTypes.ownedTupleHandOut
  refine wpAny_bind (wpAny_bind (wpAny_setField_rec ef (by simp) fun hg eg sg => ?_))
  have eg : IsEnumOut hg e it ((i : Int) + 1) x hp.objs.size := eg
  have sg : Heap.SameBut e hf hg := sg
  refine wpAny_setField_rec eg (by simp) fun hh eh sh => ?_
  have eh : IsEnumOut hh e it ((i : Int) + 1) x hp.objs.size := eh
  have sh : Heap.SameBut e hg hh := sh
  have last : ∀ b o, b ≠ e → hd.get? b = some o → hh.get? b = some o := fun b o n1 q => (sh.2 b n1).trans ((sg.2 b n1).trans ((sf.2 b n1).trans q))
  refine wpAny_bind (wpAny_letGo (wpAny_pure ⟨_, rfl, hQ hh eh (SK.iter_at jc fun o q => last _ o ne.symm (up _ o q)) (last _ _ (Nat.ne_of_gt el) new) fun b o n1 n2 q => last b o n1 (up b o (kc b o n1 n2 q))⟩))
theorem enum_end {Q : Fin → Shared → Prop} (hh : A.handled = none) (he : IsEnum s.heap e it i old) (hi : k.iter s.heap it l i) (hl : k.seq s.heap l xs) (hx : xs[i]? = none)
    (hE : ∀ h' z, Heap.ExtBut it s.heap h' → (∃ o, h'.get? z = some o ∧ o.cls = .type "StopIteration") → E (.ref z) { s with heap := h' }) :
    wpAny (model prog w) A (Builtin.«enumerate.__next__» ⟨[.ref e], []⟩) Q E s := by
  show wpAny _ _ (field (.ref e) 2 >>= _) _ _ _
  exact wpAny_bind (wpAny_field he rfl (x := .ref it) rfl (wpAny_bind (m := Builtin.SmallTypes.nextOf (.ref it)) (SK.done hh hi hl hx hE)))
theorem enum_new {k : SK} (l : Addr) (xs : Array Value) :
    Meets (Builtin.«enumerate.__new__» ⟨[.type "enumerate", .ref l], []⟩) (fun _ R s => k.seq s.heap l xs ∧
      ∀ h', IsEnum h' (s.heap.objs.size + 1) s.heap.objs.size 0 .none → k.iter h' s.heap.objs.size l 0 → (∀ c o, s.heap.get? c = some o → h'.get? c = some o) → R (.ok (.ret (.ref (s.heap.objs.size + 1)))) { s with heap := h' }) :=
  .of_wp fun prog w A R s h => by
    obtain ⟨hp, g, d, tk, os⟩ := s
    obtain ⟨g1, h⟩ := h
    have hsub : isSubtype (.type "enumerate") (.type "enumerate") = pure true := by rw [isSubtype_type]; kernel_rfl
    let o1 : Obj := { cls := .type k.nm, data := .fields #[.ref l, .int 0 0] }
    have u1 : ∀ {A : Around} {E : Value → Shared → Prop} {Q : Value → Shared → Prop}, Q (.ref hp.objs.size) ⟨hp.push o1, g, d, tk, os⟩ → wpAny (model prog w) A (pyIter (.ref l)) Q E ⟨hp, g, d, tk, os⟩ := fun {A E Q} q => SK.start (s := ⟨hp, g, d, tk, os⟩) g1 q
    have fin : R (.ok (.ret (.ref (hp.push o1).objs.size))) ⟨(hp.push o1).push { cls := .type "enumerate", data := .fields #[.none, .bool false, .ref hp.objs.size, rawInt 0, .none, .none] }, g, d, tk, os⟩ := by
      have n1 : (hp.push o1).objs.size = hp.objs.size + 1 := Heap.size_push ..
      rw [n1]
      refine h _ ?_ (SK.iter_at (SK.fresh (Heap.get?_push_size hp (o := o1) rfl)) fun o e => Heap.get?_push_of_some _ e) fun c o e => Heap.get?_push_of_some _ (Heap.get?_push_of_some _ e)
      have e := Heap.get?_push_size (hp.push o1) (o := { cls := .type "enumerate", data := .fields #[.none, .bool false, .ref hp.objs.size, rawInt 0, .none, .none] }) rfl
      rw [n1] at e
      exact e
    wp_walk using u1
    refine wpAny_stack_any fun st => wpAny_pure ?_
    split
    · rename_i c _ _ _ _ _
      cases (c == Value.type "enumerate") <;> (wp_walk using u1; exact ⟨_, rfl, fin⟩)
    · wp_walk using u1
      exact ⟨_, rfl, fin⟩
theorem call_enum {Q : Value → Shared → Prop} (h1 : k.seq s.heap l xs)
    (h : ∀ h', IsEnum h' (s.heap.objs.size + 1) s.heap.objs.size 0 .none → k.iter h' s.heap.objs.size l 0 → (∀ c o, s.heap.get? c = some o → h'.get? c = some o) → Q (.ref (s.heap.objs.size + 1)) { s with heap := h' }) :
    wpAny (model prog w) A (call (.type "enumerate") [.ref l]) Q E s :=
  callType_new F.called_enumerate (by decide) (F.typeCall_enumerate_1 _) (F.newCall_enumerate_1 _) (fun obj => F.args_object_init_2 obj _) F.entry_enumerate_new
    (enum_new l xs) ⟨h1, fun h' e it keep => ⟨⟨_, e, rfl⟩, h h' e it keep⟩⟩
end
def Iem (K : PySem.W.Frag) (k : SK) (a : Addr) : It :=
  ⟨fun i H => ∃ (xs : List V) (x : V), sq K k H a xs ∧ xs[i]? = some x, fun i H v H' => ∃ T x, v = .ref T ∧ H T = none ∧ H' = upd H T (.tup [.int (i : Nat), x]) ∧ ∀ xs, sq K k H a xs → xs[i]? = some x,
    fun i H => ∃ xs : List V, sq K k H a xs ∧ xs.length ≤ i⟩
theorem turn_em {P : Program} {w : World} {K : PySem.W.Frag} {elts : List Expr} {kk : Nat} {tpos : Pos} {k : SK} {a e it : Addr} (ne : e ≠ it) :
    Turn P w K (.Tuple elts kk tpos) (Iem K k a) [e, it] e (fun i h => (∃ old, IsEnum h e it ((i : Nat) : Int) old) ∧ k.iter h it a i) where
  mem := by simp
  obj := fun i h st b hb => by
    obtain ⟨⟨old, he⟩, hi⟩ := st
    simp only [List.mem_cons, List.not_mem_nil, or_false] at hb
    rcases hb with z | z
    · rw [z]; exact ⟨_, he, fun v q => nomatch q⟩
    · rw [z]; exact SK.iter_obj hi
  keep := fun i h h' st k => let ⟨⟨old, he⟩, hi⟩ := st; ⟨⟨old, k e (by simp) _ he⟩, SK.iter_at hi fun o q => k it (by simp) o q⟩
  item := by
    intro X hP hw hK hc i pins s σ H E I hf st hg
    subst hP hw hK
    obtain ⟨⟨old, he⟩, hi⟩ := st
    obtain ⟨xs, x, hq, hx⟩ := hg
    obtain ⟨its, rv, p⟩ := Inv.sqs I hq
    obtain ⟨u, hu, ru⟩ := rv.get hx
    have hT : s.TypeIs (.ref e) "enumerate" := ⟨_, he, rfl⟩
    have el : e < s.heap.objs.size := Heap.lt_size he
    have il : it < s.heap.objs.size := by obtain ⟨o, q, _⟩ := SK.iter_obj hi; exact Heap.lt_size q
    unfold pyNext
    refine wpAny_bind (wpAny_attempt (wpAny_callSpecial?_slot (name := Str.ofString "__next__") hT F.slot_enumerate_next (wpAny_call_entry F.slot_enumerate_next hT F.entry_enumerate_next
      (enum_item he hi p (x := u) (by simpa using hu) ne fun h' ho hi' new keep => wpAny_pure ?_) (F.args_enumerate_next_1 _))))
    refine ⟨_, rfl, wpAny_letOwnedTupleGo_enum (s := { s with heap := h', toks := s.toks + 1 }) ho fun g' eg sb => ?_⟩
    have new2 : g'.get? s.heap.objs.size = some { cls := .type "tuple", data := .seq #[.int i s.toks, u] } := (sb.2 _ (Nat.ne_of_gt el)).trans new
    have I1 : Inv X pins σ (upd H s.heap.objs.size (.tup [.int (i : Nat), x])) { s with heap := g', toks := s.toks + 1 } :=
      I.turnedNew (ch := [e, it]) (fun b o hb q => (sb.2 b (fun z => hb (by simp [z]))).trans (keep b o (fun z => hb (by simp [z])) (fun z => hb (by simp [z])) q)) hf (Nat.le_refl _)
        ⟨by show 2 ≤ sizeLine; decide, [.int i s.toks, u], .cons ⟨_, rfl⟩ (.cons ru .nil), ⟨_, new2, rfl, _, rfl⟩⟩
    refine ⟨.ref s.heap.objs.size, _, I1, rfl, ⟨_, x, rfl, I.hok.fresh (Nat.le_refl _), rfl, fun ys hy => by rw [Inv.sq_inj I hy hq]; exact hx⟩, ⟨⟨u, ?_⟩, SK.iter_at hi' fun o q => (sb.2 it ne.symm).trans q⟩, fun b hb => ?_⟩
    · rw [show ((i + 1 : Nat) : Int) = (i : Int) + 1 by omega]; exact eg
    · have lt : b < s.heap.objs.size := by
        simp only [List.mem_cons, List.not_mem_nil, or_false] at hb
        rcases hb with z | z
        · rw [z]; exact el
        · rw [z]; exact il
      rw [upd_ne (Nat.ne_of_lt lt)]
      exact (hf b hb).1
  done := by
    intro X hP hw hK hc i pins s σ H E I hf st hg
    subst hP hw hK
    obtain ⟨⟨old, he⟩, hi⟩ := st
    obtain ⟨xs, hq, hx⟩ := hg
    obtain ⟨its, rv, p⟩ := Inv.sqs I hq
    have hl := rv.length
    have hT : s.TypeIs (.ref e) "enumerate" := ⟨_, he, rfl⟩
    obtain ⟨f0, f1, f2, f3, f4, f5⟩ := hf it (by simp)
    unfold pyNext
    refine wpAny_bind (wpAny_attempt (wpAny_callSpecial?_slot (name := Str.ofString "__next__") hT F.slot_enumerate_next (wpAny_call_entry F.slot_enumerate_next hT F.entry_enumerate_next
      (enum_end (I.ok.hd hc) he hi p (by simp; omega) fun h' z eb ⟨o, ho, hco⟩ => ?_) (F.args_enumerate_next_1 _))))
    refine wpAny_bind (wpAny_isInstance (T := "StopIteration") (b := true) ⟨o, ho, hco⟩ isSubtype_stop (wpAny_pure ⟨rfl, ?_⟩))
    exact I.turned (t' := s.toks) (fun b o hb q => eb b o hb q) f0 f1 f3 f4 f5
  self := fun A i s Q E st h => let ⟨⟨_, he⟩, _⟩ := st; wpAny_pyIter_enum he h
def iEm (K : PySem.W.Frag) (ta : TA) : TI := fun σ H R => ta σ H fun vs H1 => ∃ k a xs, vs = [.ref a] ∧ sq K k H1 a xs ∧ R (Iem K k a) H1
theorem pi_em {X : Cx} {e : Expr} {ta : TA} {p pos tpos : Pos} {elts : List Expr} {kk : Nat} (hg : Gl X "enumerate") (hm : X.mg "enumerate" = none) (ha : PA X [e] ta) (hs : starEach [e] X.env = [(false, eval e X.env)] := by rfl) :
    PI X (.Tuple elts kk tpos) (.Call (.Name "enumerate" p) [e] [] pos) (iEm X.K ta) := by
  refine ⟨fun pins s σ H R I h => ?_⟩
  refine Call_ (ld_blt I hg hm boot_enumerate (PyProof.Rows.callWith_type1 (thn (ha.run pos pins s σ H _ I h) fun us s1 ⟨vs, H1, I1, r1, k, a, xs, ex, hq, q⟩ => ?_) hs rfl))
  subst ex
  cases r1 with
  | cons r rr =>
    cases rr
    cases r
    obtain ⟨its, rv, p'⟩ := Inv.sqs I1 hq
    refine call_enum p' fun h' he hi keep => wpAny_pyIter_enum he ?_
    refine ⟨s1.heap.objs.size + 1, [s1.heap.objs.size + 1, s1.heap.objs.size], _, _, H1, rfl, I1.kept (t' := s1.toks) keep, turn_em (Nat.succ_ne_self _), ⟨⟨.none, he⟩, hi⟩, fun b hb => ?_, q⟩
    have hle : s1.heap.objs.size ≤ b := by
      simp only [List.mem_cons, List.not_mem_nil, or_false] at hb
      rcases hb with z | z
      · rw [z]; exact Nat.le_add_right _ _
      · rw [z]; exact Nat.le_refl _
    exact I1.fpOk hle (I1.hok.fresh hle)
end R

set_option Elab.async false
set_option linter.all false
set_option maxRecDepth 100000
namespace R
open PySem PySem.Spec PyProof.Rows L2
open Tree (leaf fail)
/-! ### what a loop walks, by data -/
def Isq (K : PySem.W.Frag) : SK → Addr → It
  | .l, a => Itl K a
  | .t, a => Itt K a
theorem pi_sq {X : Cx} {tg l : Expr} {tl : TE} (hl : PE X l tl) : PI X tg l (fun σ H R => tl σ H fun x H1 => ∃ k a xs, x = .ref a ∧ sq X.K k H1 a xs ∧ R (Isq X.K k a) H1) := by
  refine ⟨fun pins s σ H R I h => thn (hl.run pins s σ H _ I h) fun v s1 ⟨x, H1, I1, r1, k, a, xs, e, hq, q⟩ => ?_⟩
  subst e
  cases r1
  have fp : ∀ b ∈ [s1.heap.objs.size], FpOk X pins H1 b := fun b hb => by
    rw [List.mem_singleton.mp hb]
    exact I1.fpOk (Nat.le_refl _) (I1.hok.fresh (Nat.le_refl _))
  obtain ⟨its, _, p⟩ := Inv.sqs I1 hq
  cases k with
  | l => exact wpAny_pyIter_list p ⟨_, _, _, _, H1, rfl, I1.kept (t' := s1.toks) fun b o e => Heap.get?_push_of_some _ e, turn_list a _, ⟨_, Heap.get?_push_size _ rfl, rfl, rfl⟩, fp, q⟩
  | t => exact wpAny_pyIter_tuple p ⟨_, _, _, _, H1, rfl, I1.kept (t' := s1.toks) fun b o e => Heap.get?_push_of_some _ e, turn_tuple a _, ⟨_, Heap.get?_push_size _ rfl, rfl, rfl⟩, fp, q⟩
section
variable {K : PySem.W.Frag} {A : Fz → Hp → Prop} {F' : Fz} {k k1 k2 : SK} {a b : Addr} {xs ys : List V} {ds es : List D}
structure Src (K : PySem.W.Frag) (A : Fz → Hp → Prop) (F' : Fz) (k : SK) (a : Addr) (xs : List V) (ds : List D) : Prop where
  at_ : ∀ F2 H2, A F2 H2 → Good F2 H2 → sq K k H2 a xs
  le : ∀ F2 H2, A F2 H2 → F'.Le F2
  rep : Reps K F' xs ds
theorem sq_inj {K : PySem.W.Frag} {k : SK} {H : Hp} {a : Addr} {x y : V} {i : Nat} (h : ∀ xs, sq K k H a xs → xs[i]? = some x) (hs : sq K k H a xs) (hy : xs[i]? = some y) : x = y := by
  have := h xs hs
  rw [hy] at this; cases this; rfl
theorem yld_sq (S : Src K A F' k a xs ds) : Yld K (Isq K k a) A ds := by
  intro F2 H2 ha g i
  have hs := S.at_ F2 H2 ha g
  refine ⟨fun d hd => ?_, fun hi => ?_⟩
  · obtain ⟨v, hv, rv⟩ := S.rep.get' hd
    have rv := rv.mono (S.le F2 H2 ha)
    cases k with
    | l => exact ⟨⟨xs, v, hs, hv⟩, fun x H'' ⟨e, hx⟩ => by subst e; exact ⟨F2, Ext.refl g, (sq_inj (k := .l) hx hs hv) ▸ rv⟩⟩
    | t => exact ⟨⟨xs, v, hs, hv⟩, fun x H'' ⟨e, hx⟩ => by subst e; exact ⟨F2, Ext.refl g, (sq_inj (k := .t) hx hs hv) ▸ rv⟩⟩
  · cases k with
    | l => exact ⟨xs, hs, by rw [S.rep.length]; exact hi⟩
    | t => exact ⟨xs, hs, by rw [S.rep.length]; exact hi⟩
def zipD : List D → List D → List D
  | d :: ds, e :: es => .tup [d, e] :: zipD ds es
  | _, _ => []
theorem zipD_get : ∀ {ds es : List D} {i : Nat} {z : D}, (zipD ds es)[i]? = some z → ∃ d e, ds[i]? = some d ∧ es[i]? = some e ∧ z = .tup [d, e]
  | [], _, i, z, h => by simp [zipD] at h
  | _ :: _, [], i, z, h => by simp [zipD] at h
  | d :: ds, e :: es, 0, z, h => by simp [zipD] at h; exact ⟨d, e, rfl, rfl, h.symm⟩
  | d :: ds, e :: es, i + 1, z, h => by
    obtain ⟨d', e', h1, h2, h3⟩ := zipD_get (ds := ds) (es := es) (i := i) (by simpa [zipD] using h)
    exact ⟨d', e', by simpa using h1, by simpa using h2, h3⟩
theorem zipD_len : ∀ ds es : List D, (zipD ds es).length = min ds.length es.length
  | [], _ => by simp [zipD]
  | _ :: _, [] => by simp [zipD]
  | d :: ds, e :: es => by simp only [zipD, List.length_cons, zipD_len ds es]; omega
theorem yld_zip (S1 : Src K A F' k1 a xs ds) (S2 : Src K A F' k2 b ys es) : Yld K (Izm K k1 k2 a b) A (zipD ds es) := by
  intro F2 H2 ha g i
  have h1 := S1.at_ F2 H2 ha g
  have h2 := S2.at_ F2 H2 ha g
  refine ⟨fun z hz => ?_, fun hi => ?_⟩
  · obtain ⟨d, e, hd, he, rfl⟩ := zipD_get hz
    obtain ⟨v, hv, rv⟩ := S1.rep.get' hd
    obtain ⟨u, hu, ru⟩ := S2.rep.get' he
    refine ⟨⟨xs, ys, v, u, h1, h2, hv, hu⟩, fun x H'' ⟨T, x', y', e1, nT, e2, f1, f2⟩ => ?_⟩
    subst e1 e2
    have le := (S1.le F2 H2 ha).trans (Fz.le_add (o := .tup [x', y']) (g.free nT).1)
    refine ⟨F2.add T (.tup [x', y']), Ext.addNew g nT, .tup (.of upd_same) (.cons ?_ (.cons ?_ .nil))⟩
    · exact (sq_inj f1 h1 hv) ▸ rv.mono le
    · exact (sq_inj f2 h2 hu) ▸ ru.mono le
  · rw [zipD_len] at hi
    have l1 := S1.rep.length
    have l2 := S2.rep.length
    exact ⟨xs, ys, h1, h2, by omega⟩
def enumD : Nat → List D → List D
  | _, [] => []
  | n, d :: ds => .tup [.int (n : Nat), d] :: enumD (n + 1) ds
theorem enumD_get : ∀ {ds : List D} {n i : Nat} {z : D}, (enumD n ds)[i]? = some z → ∃ d, ds[i]? = some d ∧ z = .tup [.int ((n + i : Nat) : Int), d]
  | [], n, i, z, h => by simp [enumD] at h
  | d :: ds, n, 0, z, h => by simp [enumD] at h; exact ⟨d, rfl, h.symm⟩
  | d :: ds, n, i + 1, z, h => by
    obtain ⟨d', h1, h2⟩ := enumD_get (ds := ds) (n := n + 1) (i := i) (by simpa [enumD] using h)
    exact ⟨d', by simpa using h1, by rw [h2, show n + 1 + i = n + (i + 1) by omega]⟩
theorem enumD_len : ∀ (ds : List D) (n : Nat), (enumD n ds).length = ds.length
  | [], n => rfl
  | d :: ds, n => by simp only [enumD, List.length_cons, enumD_len ds]
theorem yld_enum (S : Src K A F' k a xs ds) : Yld K (Iem K k a) A (enumD 0 ds) := by
  intro F2 H2 ha g i
  have h1 := S.at_ F2 H2 ha g
  refine ⟨fun z hz => ?_, fun hi => ?_⟩
  · obtain ⟨d, hd, rfl⟩ := enumD_get hz
    obtain ⟨v, hv, rv⟩ := S.rep.get' hd
    refine ⟨⟨xs, v, h1, hv⟩, fun x H'' ⟨T, x', e1, nT, e2, f1⟩ => ?_⟩
    subst e1 e2
    have le := (S.le F2 H2 ha).trans (Fz.le_add (o := .tup [.int (i : Nat), x']) (g.free nT).1)
    refine ⟨F2.add T (.tup [.int (i : Nat), x']), Ext.addNew g nT, .tup (.of upd_same) (.cons ?_ (.cons ?_ .nil))⟩
    · rw [Nat.zero_add]; exact .int _
    · exact (sq_inj f1 h1 hv) ▸ rv.mono le
  · rw [enumD_len] at hi
    exact ⟨xs, h1, by rw [S.rep.length]; exact hi⟩
def rangeD (lo hi : Int) : List D := (List.range (hi - lo).toNat).map fun i => .int (lo + (i : Nat))
theorem yld_range {lo hi : Int} : Yld K (Itr lo (hi - lo).toNat) A (rangeD lo hi) := by
  intro F2 H2 ha g i
  refine ⟨fun z hz => ?_, fun hi => ?_⟩
  · unfold rangeD at hz
    rw [List.getElem?_map] at hz
    by_cases h : i < (hi - lo).toNat
    · rw [List.getElem?_range h] at hz
      cases hz
      exact ⟨h, fun x H'' ⟨e1, e2⟩ => by subst e1 e2; exact ⟨F2, Ext.refl g, .int _⟩⟩
    · rw [List.getElem?_eq_none (by simpa using h)] at hz; cases hz
  · unfold rangeD at hi
    rw [List.length_map, List.length_range] at hi
    exact hi
def seqOf : D → Tree (List D)
  | .lst ds => leaf ds
  | .tup ds => leaf ds
  | .scr ns => leaf (ns.map .int)
  | _ => fail
theorem reps_ints {F : Fz} : ∀ ns : List Int, Reps K F (ns.map V.int) (ns.map D.int)
  | [] => .nil
  | n :: ns => .cons (.int n) (reps_ints ns)
theorem src_rep {v : V} {d : D} {Q : List D → Prop} (r : Rep K F' v d) (q : (seqOf d).all Q) : ∃ k a xs ds, v = .ref a ∧ Q ds ∧ Src K (fun F2 _ => F'.Le F2) F' k a xs ds := by
  unfold seqOf at q
  split at q
  · cases r with
    | lst h rs => exact ⟨.l, _, _, _, rfl, q, fun F2 H2 l g => .of (g.sub _ _ (l.p _ _ h)), fun _ _ l => l, rs⟩
  · cases r with
    | tup h rs => exact ⟨.t, _, _, _, rfl, q, fun F2 H2 l g => sqT_same g.sub (h.same l.p).sq, fun _ _ l => l, rs⟩
  · cases r with
    | scr h => exact ⟨.l, _, _, _, rfl, q, fun F2 H2 l g => g.sub.seq (l.p.seq h), fun _ _ l => l, reps_ints _⟩
  · exact q.elim
theorem src_pk {H' : Hp} {v : V} {d : D} {Q : List D → Prop} (p : Pk K F' H' v d) (q : (seqOf d).all Q) : ∃ k a xs ds, v = .ref a ∧ Q ds ∧ Src K (fun F2 H2 => Ext F' H' F2 H2) F' k a xs ds := by
  cases p with
  | rep r =>
    obtain ⟨k, a, xs, ds, h1, h2, h3⟩ := src_rep r q
    exact ⟨k, a, xs, ds, h1, h2, fun F2 H2 e g => h3.at_ F2 H2 e.le g, fun _ _ e => e.le, h3.rep⟩
  | own h t n rs => exact ⟨.l, _, _, _, rfl, q, fun F2 H2 e g => .of (own_ext e h n t).1, fun _ _ e => e.le, rs⟩
end
section
variable {X : Cx} {tg e e2 : Expr} {m m' : En → Tree D} {p pos : Pos}
def mSeq (m : En → Tree D) : En → Tree (List D) := fun E => (m E).bind seqOf
theorem si_seq (h : SE X e m) : SI X tg e (mSeq m) := ⟨_, pi_sq h.pe, fun σ H R ⟨B, F, E, g, r, q⟩ => ⟨B, F, E, g, r, Tree.all_mono (fun d k v F' H' e rv => by
  obtain ⟨k', a, xs, ds, h1, h2, h3⟩ := src_rep rv k
  exact ⟨k', a, xs, h1, h3.at_ F' H' (Fz.Le.refl _) e.good, h2 _ F' H' e (yld_sq h3)⟩) (Tree.all_bind.mp q)⟩⟩
theorem sip_seq (h : SP X e m) : SIp X tg e (mSeq m) := ⟨_, pi_sq h.pe, fun σ H R ⟨B, F, E, g, r, q⟩ => ⟨B, F, E, g, r, Tree.all_mono (fun d k v F' H' e rv => by
  obtain ⟨k', a, xs, ds, h1, h2, h3⟩ := src_pk rv k
  exact ⟨k', a, xs, h1, h3.at_ F' H' (Ext.refl e.good) e.good, h2 _ F' H' e (yld_sq h3)⟩) (Tree.all_bind.mp q)⟩⟩
def rOk (j : Int) : Bool := decide (-(2 ^ 62) ≤ j) && decide (j < 2 ^ 62)
theorem rOk_of {j : Int} (h : rOk j = true) : -(2 ^ 62) ≤ j ∧ j < 2 ^ 62 := by
  unfold rOk at h
  simpa only [Bool.and_eq_true, decide_eq_true_eq] using h
def mRange1 (m : En → Tree D) : En → Tree (List D) := fun E => (m E).bind fun d => match d with
  | .int j => if rOk j = true then leaf (rangeD 0 j) else fail
  | _ => fail
def mRange2 (m m' : En → Tree D) : En → Tree (List D) := fun E => (m E).bind fun d => (m' E).bind fun d' => match d, d' with
  | .int i, .int j => if (rOk i && rOk j) = true then leaf (rangeD i j) else fail
  | _, _ => fail
theorem si_range1 (hg : Gl X "range") (hm : X.mg "range" = none) (ha : SP X e m) (hs : starEach [e] X.env = [(false, eval e X.env)] := by rfl) : SI X tg (.Call (.Name "range" p) [e] [] pos) (mRange1 m) := by
  refine ⟨_, pi_range1 hg hm (pa_cons ha.pe pa_nil hs) hs, fun σ H R ⟨B, F, E, g, r, q⟩ => ⟨B, F, E, g, r, Tree.all_mono (fun d k v F' H' e pv => ?_) (Tree.all_bind.mp q)⟩⟩
  cases d with
  | int j =>
    cases pv.int
    have k : (if rOk j = true then leaf (rangeD 0 j) else fail).all _ := k
    by_cases h : rOk j = true
    · rw [if_pos h] at k
      obtain ⟨h1, h2⟩ := rOk_of h
      refine ⟨j, rfl, h1, h2, k _ F' H' e ?_⟩
      have y : Yld X.K (Itr 0 (j - 0).toNat) (fun F2 _ => F'.Le F2) (rangeD 0 j) := yld_range
      rw [Int.sub_zero] at y
      exact y
    · rw [if_neg h] at k
      exact k.elim
  | _ => exact False.elim k
theorem si_range2 (hg : Gl X "range") (hm : X.mg "range" = none) (ha : SP X e m) (hb : SP X e2 m') (hs : starEach [e, e2] X.env = [(false, eval e X.env), (false, eval e2 X.env)] := by rfl) (hs2 : starEach [e2] X.env = [(false, eval e2 X.env)] := by rfl) :
    SI X tg (.Call (.Name "range" p) [e, e2] [] pos) (mRange2 m m') := by
  refine ⟨_, pi_range2 hg hm (pa_cons ha.pe (pa_cons hb.pe pa_nil hs2) (hs.trans (by rw [hs2]))) hs hs2, fun σ H R ⟨B, F, E, g, r, q⟩ => ⟨B, F, E, g, r, Tree.all_mono (fun d k v F1 H1 e1 pv => ⟨B, F1, E, e1.good, r.ext e1, Tree.all_mono (fun d' k v' F' H' e pv' => ?_) (Tree.all_bind.mp k)⟩) (Tree.all_bind.mp q)⟩⟩
  have pv := pv.ext e
  cases d with
  | int i =>
    cases d' with
    | int j =>
      cases pv.int
      cases pv'.int
      have k : (if (rOk i && rOk j) = true then leaf (rangeD i j) else fail).all _ := k
      by_cases h : (rOk i && rOk j) = true
      · rw [if_pos h] at k
        rw [Bool.and_eq_true] at h
        obtain ⟨h1, h2⟩ := rOk_of h.1
        obtain ⟨h3, h4⟩ := rOk_of h.2
        exact ⟨i, j, rfl, ⟨h1, h2, h3, h4⟩, k _ F' H' (e1.trans e) yld_range⟩
      · rw [if_neg h] at k
        exact k.elim
    | _ => exact False.elim k
  | _ => exact False.elim k
def mZip (m m' : En → Tree D) : En → Tree (List D) := fun E => (m E).bind fun d => (m' E).bind fun d' => (seqOf d).bind fun ds => (seqOf d').bind fun es => leaf (zipD ds es)
def mEnum (m : En → Tree D) : En → Tree (List D) := fun E => (m E).bind fun d => (seqOf d).bind fun ds => leaf (enumD 0 ds)
variable {elts : List Expr} {kk : Nat} {tpos : Pos}
theorem si_zip (hg : Gl X "zip") (hm : X.mg "zip" = none) (ha : SE X e m) (hb : SE X e2 m') (hs : starEach [e, e2] X.env = (false, eval e X.env) :: starEach [e2] X.env := by rfl) (hs2 : starEach [e2] X.env = (false, eval e2 X.env) :: starEach [] X.env := by rfl)
    (hpl : (backTo pos (starEach [e2] X.env)).any (·.1) = false := by rfl) : SI X (.Tuple elts kk tpos) (.Call (.Name "zip" p) [e, e2] [] pos) (mZip m m') := by
  refine ⟨_, pi_zm hg hm (pa_cons ha.pe (pa_cons hb.pe pa_nil hs2) hs) hs hpl, fun σ H R ⟨B, F, E, g, r, q⟩ => ⟨B, F, E, g, r, Tree.all_mono (fun d k v F1 H1 e1 pv => ⟨B, F1, E, e1.good, r.ext e1, Tree.all_mono (fun d' k v' F' H' e pv' => ?_) (Tree.all_bind.mp k)⟩) (Tree.all_bind.mp q)⟩⟩
  obtain ⟨k1, a, xs, ds, rfl, k, s1⟩ := src_rep (pv.mono e.le) (Tree.all_bind.mp k)
  obtain ⟨k2, b, ys, es, rfl, k, s2⟩ := src_rep pv' (Tree.all_bind.mp k)
  exact ⟨a, b, k1, k2, xs, ys, rfl, s1.at_ F' H' (Fz.Le.refl _) e.good, s2.at_ F' H' (Fz.Le.refl _) e.good, k _ F' H' (e1.trans e) (yld_zip s1 s2)⟩
theorem si_enum (hg : Gl X "enumerate") (hm : X.mg "enumerate" = none) (ha : SE X e m) (hs : starEach [e] X.env = [(false, eval e X.env)] := by rfl) : SI X (.Tuple elts kk tpos) (.Call (.Name "enumerate" p) [e] [] pos) (mEnum m) := by
  refine ⟨_, pi_em hg hm (pa_cons ha.pe pa_nil hs) hs, fun σ H R ⟨B, F, E, g, r, q⟩ => ⟨B, F, E, g, r, Tree.all_mono (fun d k v F' H' e pv => ?_) (Tree.all_bind.mp q)⟩⟩
  obtain ⟨k1, a, xs, ds, rfl, k, s1⟩ := src_rep pv (Tree.all_bind.mp k)
  exact ⟨k1, a, xs, rfl, s1.at_ F' H' (Fz.Le.refl _) e.good, k _ F' H' e (yld_enum s1)⟩
theorem sip_zip (hg : Gl X "zip") (hm : X.mg "zip" = none) (ha : SP X e m) (hb : SP X e2 m') (hs : starEach [e, e2] X.env = (false, eval e X.env) :: starEach [e2] X.env := by rfl) (hs2 : starEach [e2] X.env = (false, eval e2 X.env) :: starEach [] X.env := by rfl)
    (hpl : (backTo pos (starEach [e2] X.env)).any (·.1) = false := by rfl) : SIp X (.Tuple elts kk tpos) (.Call (.Name "zip" p) [e, e2] [] pos) (mZip m m') := by
  refine ⟨_, pi_zm hg hm (pa_cons ha.pe (pa_cons hb.pe pa_nil hs2) hs) hs hpl, fun σ H R ⟨B, F, E, g, r, q⟩ => ⟨B, F, E, g, r, Tree.all_mono (fun d k v F1 H1 e1 pv => ⟨B, F1, E, e1.good, r.ext e1, Tree.all_mono (fun d' k v' F' H' e pv' => ?_) (Tree.all_bind.mp k)⟩) (Tree.all_bind.mp q)⟩⟩
  obtain ⟨k1, a, xs, ds, rfl, k, s1⟩ := src_pk (pv.ext e) (Tree.all_bind.mp k)
  obtain ⟨k2, b, ys, es, rfl, k, s2⟩ := src_pk pv' (Tree.all_bind.mp k)
  exact ⟨a, b, k1, k2, xs, ys, rfl, s1.at_ F' H' (Ext.refl e.good) e.good, s2.at_ F' H' (Ext.refl e.good) e.good, k _ F' H' (e1.trans e) (yld_zip s1 s2)⟩
theorem sip_enum (hg : Gl X "enumerate") (hm : X.mg "enumerate" = none) (ha : SP X e m) (hs : starEach [e] X.env = [(false, eval e X.env)] := by rfl) : SIp X (.Tuple elts kk tpos) (.Call (.Name "enumerate" p) [e] [] pos) (mEnum m) := by
  refine ⟨_, pi_em hg hm (pa_cons ha.pe pa_nil hs) hs, fun σ H R ⟨B, F, E, g, r, q⟩ => ⟨B, F, E, g, r, Tree.all_mono (fun d k v F' H' e pv => ?_) (Tree.all_bind.mp q)⟩⟩
  obtain ⟨k1, a, xs, ds, rfl, k, s1⟩ := src_pk pv (Tree.all_bind.mp k)
  exact ⟨k1, a, xs, rfl, s1.at_ F' H' (Ext.refl e.good) e.good, k _ F' H' e (yld_enum s1)⟩

/-! ### an own list at a name is changed -/
theorem own_put {K : PySem.W.Frag} {F0 F : Fz} {H0 H : Hp} {σ : L2.St} {E : En} {i : Nat} {ds es : List D} {ys : List V} (e : Ext F0 H0 F H) (r : RelE K (B0 H0) F H σ E) (hi : E[i]? = some (some ⟨true, .lst ds⟩)) (ry : Reps K F ys es) :
    ∃ a xs, σ[i]? = some (some (.ref a)) ∧ H a = some (.lst xs) ∧ Reps K F xs ds ∧ (Ext F0 H0 F (upd H a (.lst ys)) ∧ RelE K (B0 H0) F (upd H a (.lst ys)) σ (E.putOwn i (.lst es))) := by
  obtain ⟨a, xs, ds', h1, h2, h3, h4, h5, h6, h7⟩ := r.own i _ hi
  cases h2
  refine ⟨a, xs, h1, h3, h4, e.write h5 h6 h7 ⟨_, h3⟩, ?_⟩
  have hl : i < E.length := (List.getElem?_eq_some_iff.mp hi).1
  refine ⟨by simp [r.len, En.putOwn], fun j d hj => ?_, fun j d hj => ?_, fun j k x y c hjk hx hy ha hb => ?_⟩
  · by_cases q : i = j
    · subst q; rw [En.putOwn, List.getElem?_set_self hl] at hj; cases hj
    · rw [En.putOwn, List.getElem?_set_ne q] at hj; exact r.val j d hj
  · by_cases q : i = j
    · subst q
      rw [En.putOwn, List.getElem?_set_self hl] at hj; cases hj
      exact ⟨a, ys, es, h1, rfl, upd_same, ry, h5, h6, h7⟩
    · rw [En.putOwn, List.getElem?_set_ne q] at hj
      obtain ⟨b, zs, fs, g1, g2, g3, g4, g5, g6, g7⟩ := r.own j d hj
      have ne : b ≠ a := fun z => by subst z; exact r.dist i j _ _ b q hi hj h1 g1
      exact ⟨b, zs, fs, g1, g2, by rw [upd_ne ne]; exact g3, g4, g5, g6, g7⟩
  · have fix : ∀ (j : Nat) (d : D), (En.putOwn E i (.lst es))[j]? = some (some ⟨true, d⟩) → ∃ d', E[j]? = some (some ⟨true, d'⟩) := fun j d hj => by
      by_cases q : i = j
      · subst q; exact ⟨_, hi⟩
      · rw [En.putOwn, List.getElem?_set_ne q] at hj; exact ⟨_, hj⟩
    obtain ⟨x', hx'⟩ := fix j x hx
    obtain ⟨y', hy'⟩ := fix k y hy
    exact r.dist j k x' y' c hjk hx' hy' ha hb
def mOwn (i : Nat) (E : En) (k : List D → Tree Out) : Tree Out := match E[i]? with
  | some (some ⟨true, .lst ds⟩) => k ds
  | _ => fail
theorem mOwn_all {i : Nat} {E : En} {k : List D → Tree Out} {P : Out → Prop} (h : (mOwn i E k).all P) : ∃ ds, E[i]? = some (some ⟨true, .lst ds⟩) ∧ (k ds).all P := by
  unfold mOwn at h
  split at h
  · exact ⟨_, by assumption, h⟩
  · exact h.elim
/-- x[e] = v, x an own list -/
def oStore (i : Nat) (mi mv : En → Tree D) : En → Tree Out := fun E => (mv E).bind fun v => mOwn i E fun _ => (mi E).bind fun d => match d with
  | .int k => mOwn i E fun ds => match ixN ds.length k with
    | some j => leaf (.nx (E.putOwn i (.lst (ds.set j v))))
    | none => fail
  | _ => fail
theorem s_store {i : Nat} {x : Str} {px pos' : Pos} {ei ev : Expr} {mi mv : En → Tree D} (he : SE X ev mv)
    (h1 : PG X (.Subscript (.Name x px) ei pos') (gSub (tVar i) (tP X.K mi) rSetL))
    (hs : swapsWithSole [.Subscript (.Name x px) ei pos'] ev pos.line X.env = pure false := by rfl) (hw : swappedStores [.Subscript (.Name x px) ei pos'] ev X.env = pure none := by rfl)
    (h2 : (assignEach [.Subscript (.Name x px) ei pos'] X.env).map (·.2) = [assign (.Subscript (.Name x px) ei pos') X.env] := by rfl) : SS X (.Assign [.Subscript (.Name x px) ei pos'] ev pos) (oStore i mi mv) := by
  refine ⟨PS.weak (ps_asg he.pe h1 hs hw h2) fun D0 σ H ⟨F0, H0, F, E, e, r, q⟩ => ?_⟩
  refine exprIn e r (Tree.all_mono (fun d k v F1 H1 e1 l1 r1 p1 => ?_) (Tree.all_bind.mp q))
  obtain ⟨ds0, o0, k⟩ := mOwn_all k
  obtain ⟨a, xs, _, g1, _, _, _, _⟩ := r1.own i _ o0
  refine ⟨.ref a, g1, B0 H0, F1, E, e1.good, r1, Tree.all_mono (fun d' k v' F2 H2 e2 p2 => ?_) (Tree.all_bind.mp k)⟩
  cases d' with
  | int kk =>
    have k : (mOwn i E fun ds => match ixN ds.length kk with | some j => leaf (.nx (E.putOwn i (.lst (ds.set j d)))) | none => fail).all (Post X.K F0 H0 F D0) := k
    obtain ⟨ds, o1, k⟩ := mOwn_all k
    have r2 := r1.ext e2
    cases hj : ixN ds.length kk with
    | none => rw [hj] at k; exact k.elim
    | some j =>
      rw [hj] at k
      obtain ⟨a', xs', ds', z1, zeq, z2, z3, _⟩ := r2.own i _ o1
      cases zeq
      rw [g1] at z1; cases z1
      have rs := z3.set (p1.mono e2.le) j
      obtain ⟨a2, xs2, y1, y2, y3, y4, y5⟩ := own_put (e1.trans e2) r2 o1 rs
      rw [g1] at y1; cases y1
      rw [z2] at y2; cases y2
      cases p2.int
      exact ⟨a, xs', kk, j, rfl, rfl, z2, by rw [z3.length]; exact hj, k σ F2 _ y4 (l1.trans e2.le) y5⟩
  | _ => exact False.elim k
/-- x.append(e), x an own list -/
def oApp (i : Nat) (mv : En → Tree D) : En → Tree Out := fun E => mOwn i E fun _ => (mv E).bind fun v => mOwn i E fun ds => if ds.length < sizeLine then leaf (.nx (E.putOwn i (.lst (ds ++ [v])))) else fail
end
end R

set_option Elab.async false
set_option linter.all false
set_option maxRecDepth 100000
namespace R
open PySem PySem.Spec PyProof.Rows L2
open Tree (leaf fail)
section
variable {X : Cx} {e e2 : Expr} {m m' : En → Tree D} {p p2 q pos pos' : Pos} {x : Str}
/-- x.append(e), x an own list -/
theorem s_app {i : Nat} {px apos cpos : Pos} {mv : En → Tree D} (hv : PE X (.Name x px) (tVar i)) (he : SE X e mv)
    (hb : attributeBase (.Name x px) "append" X.env (eval (.Name x px) X.env) = eval (.Name x px) X.env := by rfl) (hl : (apos.endLine == cpos.line) = true := by rfl)
    (hfew : ((backTo cpos (starEach [e] X.env)).all (fun x => !x.1) && (backToKw cpos (keywordEach [] X.env)).all (fun x => x.1.isSome) && decide (([e] : List Expr).length + ([] : List Keyword).length + (if ([] : List Keyword).isEmpty then 0 else 1) < 30)) = true := by rfl)
    (hs : starEach [e] X.env = (false, eval e X.env) :: starEach [] X.env := by rfl) (hw : swapsWith (.Call (.Attribute (.Name x px) "append" apos) [e] [] cpos) none pos.line X.env = pure false := by rfl) :
    SS X (.Expr (.Call (.Attribute (.Name x px) "append" apos) [e] [] cpos) pos) (oApp i mv) := by
  refine ⟨PS.weak (ps_expr (pe_bm PySem.F.plainAttrs_list PySem.F.slot_list_append PySem.F.type_list_append mt_append hv (pa_cons he.pe pa_nil hs) hb hfew hl hs (by rfl)) hw) fun D0 σ H ⟨F0, H0, F, E, ex, r, q⟩ => ?_⟩
  obtain ⟨ds0, o0, q⟩ := mOwn_all q
  obtain ⟨a, xs, _, g1, _, g3, _, _⟩ := r.own i _ o0
  refine ⟨.ref a, g1, .inl ⟨rfl, xs, .of g3⟩, B0 H0, F, E, ex.good, r, Tree.all_mono (fun d k v F1 H1 e1 p1 => ?_) (Tree.all_bind.mp q)⟩
  obtain ⟨ds, o1, k⟩ := mOwn_all k
  have r1 := r.ext e1
  obtain ⟨a', xs', ds', z1, zeq, z2, z3, _⟩ := r1.own i _ o1
  cases zeq
  rw [g1] at z1; cases z1
  split at k
  · rename_i hlen
    obtain ⟨a2, xs2, y1, y2, y3, y4, y5⟩ := own_put (ex.trans e1) r1 o1 (z3.append (.cons p1 .nil))
    rw [g1] at y1; cases y1
    rw [z2] at y2; cases y2
    exact ⟨a, xs', v, rfl, rfl, z2, by rw [z3.length]; exact hlen, k σ F1 _ y4 e1.le y5⟩
  · exact k.elim

/-! ### keywords -/
structure SK_ (X : Cx) (kws : List Keyword) (m : En → Tree (List D)) : Prop where
  pk : PK X kws (tA X.K m)
theorem sk_nil : SK_ X [] aNil := ⟨⟨fun pos pins s σ H Q I ⟨B, F, E, g, r, q⟩ => pk_nil.run pos pins s σ H Q I (q [] F H (Ext.refl g) .nil)⟩⟩
theorem sk_cons {nm : Option Str} {kpos : Pos} {kws : List Keyword} {n : En → Tree (List D)} (ha : SE X e m) (hr : SK_ X kws n) : SK_ X (⟨nm, e, kpos⟩ :: kws) (aCons m n) :=
  ⟨⟨fun pos pins s σ H Q I ⟨B, F, E, g, r, q⟩ => (pk_cons ha.pe hr.pk).run pos pins s σ H Q I ⟨B, F, E, g, r, Tree.all_mono (fun d k v F1 H1 e1 p1 => ⟨B, F1, E, e1.good, r.ext e1, Tree.all_mono (fun ds k vs F2 H2 e2 p2 => k (v :: vs) F2 H2 (e1.trans e2) (.cons (p1.mono e2.le) p2)) (Tree.all_bind.mp k)⟩) (Tree.all_bind.mp q)⟩⟩⟩
/-- the keywords' values in the parameters' order: is: the place of each parameter among them -/
def permD (is : List Nat) (ds : List D) : List D := is.filterMap fun i => ds[i]?
theorem perm_rep {K : PySem.W.Frag} {F : Fz} {vs : List V} {ds : List D} (r : Reps K F vs ds) : ∀ is : List Nat, Reps K F (is.filterMap fun i => vs[i]?) (is.filterMap fun i => ds[i]?)
  | [] => .nil
  | i :: is => by
    rw [List.filterMap_cons, List.filterMap_cons]
    cases h : vs[i]? with
    | none =>
      have hd : ds[i]? = none := by rw [List.getElem?_eq_none_iff] at h ⊢; rw [← r.length]; exact h
      rw [hd]; exact perm_rep r is
    | some v =>
      obtain ⟨d, h1, h2⟩ := r.get h
      rw [h1]; exact .cons h2 (perm_rep r is)
theorem perm_vals {vs : List V} {us : List Value} (r : Vals vs us) : ∀ is : List Nat, Vals (is.filterMap fun i => vs[i]?) (is.filterMap fun i => us[i]?)
  | [] => .nil
  | i :: is => by
    rw [List.filterMap_cons, List.filterMap_cons]
    cases h : vs[i]? with
    | none => rw [r.none_of h]; exact perm_vals r is
    | some v =>
      obtain ⟨u, h1, h2⟩ := r.get h
      rw [h1]; exact .cons h2 (perm_vals r is)
/-- f(k = v, ..), all by keyword -/
structure KwBinds (K : PySem.W.Frag) (fd : FuncData) (ps ks : List Str) (is : List Nat) : Prop where
  to : ∀ (s : Shared) (ws : List Value), K.In s.heap → (is.filterMap fun i => ws[i]?).length = ps.length → BindsTo s fd ⟨[], ks.zip ws⟩ (ps.zip (is.filterMap fun i => ws[i]?))
theorem se_callKw {k : Nat} {f : Addr} {fd : FuncData} {ps ks : List Str} {fn : List D → Tree D} {kws : List Keyword} {is : List Nat} {mk : En → Tree (List D)} (F : FnOk X.prog X.w X.K X.mg X.base CX0 k f fd ps (spF X.K fn)) (hr : Room k X.A) (hg : Gl X x) (hm : X.mg x = some (.ref f)) (hk : PySem.W.keepIn X.K (.ref f) = true)
    (hb : KwBinds X.K fd ps ks is) (hkw : SK_ X kws mk) (hall : (backToKw pos (keywordEach kws X.env)).all (·.1.isSome) = true := by rfl) (hks : (backToKw pos (keywordEach kws X.env)).filterMap (·.1) = ks := by rfl) (hdb : (x == ("__debug__" : Str)) = false := by decide)
    (hpl : ((backTo pos (starEach [] X.env)).any (·.1) || (backToKw pos (keywordEach kws X.env)).any (·.1.isNone)) = false := by rfl) :
    SE X (.Call (.Name x p) [] kws pos) (mA (fun ds => fn (permD is ds)) mk) := by
  refine ⟨⟨fun pins s σ H Q I ⟨B, F', E, g, rl, q⟩ => ?_⟩⟩
  refine wpAny_Call_Name_kw (ld_glob I hg hm ?_ hdb)
  refine PySem.W.callWith_KW0 (h₀ := X.base) I.ok.mod.kin hk hall (thn (hkw.pk.run pos pins s σ H (fun vs H1 => spF X.K fn (is.filterMap fun i => vs[i]?) H1 Q E0) I ⟨B, F', E, g, rl, Tree.all_mono (fun ds k vs F1 H1 e1 p1 => ?_) (Tree.all_bind.mp q)⟩) fun ws s2 ⟨zs, H2, I2, rz, q2⟩ => ⟨I2.kIn, ?_⟩) hpl
  · exact ⟨F1, permD is ds, e1.good, perm_rep p1 is, Tree.all_mono (fun z kz w F2 H2 e2 rz => kz w F2 H2 (e1.trans e2) rz) k⟩
  · rw [hks]
    have r2 := perm_vals rz is
    have hl := r2.length.symm.trans (F.len _ _ _ _ q2)
    refine wpAny_call (codeAny_mono (F.run X.A X.stack s2 H2 ⟨[], ks.zip ws⟩ _ _ Q E0 hr I2.env0 (hb.to s2 ws I2.kIn hl) r2 q2) fun r s' hq => ?_)
    cases r with
    | error e => exact False.elim hq
    | ok fl =>
      cases fl with
      | ret u => exact I2.after hq
      | next => exact False.elim hq
      | brk => exact False.elim hq
      | cont => exact False.elim hq

/-! ### len(set(x)), distinct ints -/
def nodupB : List Int → Bool
  | [] => true
  | n :: ns => !ns.contains n && nodupB ns
theorem nodup_of : ∀ {ns : List Int}, nodupB ns = true → ns.Nodup
  | [], _ => .nil
  | n :: ns, h => by
    unfold nodupB at h
    rw [Bool.and_eq_true, Bool.not_eq_true'] at h
    exact List.nodup_cons.mpr ⟨fun m => absurd (List.contains_iff_mem.mpr m) (by rw [h.1]; exact Bool.false_ne_true), nodup_of h.2⟩
def fLenSet : D → Tree D
  | .lst ds => withO (intsD ds) fun ns => if (nodupB ns && decide (ns.length ≤ 4000)) = true then leaf (.int ns.length) else fail
  | _ => fail
theorem se_lenset (hg : Gl X "len") (hm : X.mg "len" = none) (hg2 : Gl X "set") (hm2 : X.mg "set" = none) (ha : SP X e m) (hc : X.calm = true := by rfl) (na : starEach [e] X.env = (false, eval e X.env) :: starEach [] X.env := by rfl) :
    SE X (.Call (.Name "len" p) [.Call (.Name "set" p2) [e] [] q] [] pos) (m1 fLenSet m) := by
  refine ⟨PE.weak (RZ.pe_lenSetI hg hm hg2 hm2 ha.pe hc na) fun σ H Q ⟨B, F, E, g, rl, q⟩ => ?_⟩
  refine ⟨B, F, E, g, rl, Tree.all_mono (fun d k v F1 H1 e1 p1 => ?_) (Tree.all_bind.mp q)⟩
  unfold fLenSet at k
  split at k
  · obtain ⟨a, xs, rfl, h1, r1⟩ := p1.lst e1.good
    unfold withO at k
    split at k
    · rename_i ns hn
      have := ints_of hn r1
      subst this
      have k : (if (nodupB ns && decide (ns.length ≤ 4000)) = true then leaf (D.int ns.length) else fail).all _ := k
      by_cases h : (nodupB ns && decide (ns.length ≤ 4000)) = true
      · rw [if_pos h] at k
        rw [Bool.and_eq_true, decide_eq_true_eq] at h
        exact ⟨a, ns, rfl, .of h1, nodup_of h.1, h.2, k _ F1 H1 e1 (.int _)⟩
      · rw [if_neg h] at k
        exact k.elim
    · exact k.elim
  · exact k.elim
/-! ### list(range(..)) -/
def rgOk (n : Int) : Bool := decide (0 ≤ n) && decide (n ≤ 16777216)
theorem rgV_rep {K : PySem.W.Frag} {F : Fz} (i j : Int) : Reps K F (rgV i j) (rangeD i j) := by
  unfold rgV rangeD
  generalize (List.range (j - i).toNat) = l
  induction l with
  | nil => exact .nil
  | cons a l ih => exact .cons (.int _) ih
theorem sl_listrg2 (hc : X.calm = true) (hg : Gl X "list") (hm : X.mg "list" = none) (hg2 : Gl X "range") (hm2 : X.mg "range" = none) (ha : SP X e m) (hb : SP X e2 m') (na : starEach [e, e2] X.env = (false, eval e X.env) :: starEach [e2] X.env := by rfl)
    (nb : starEach [e2] X.env = (false, eval e2 X.env) :: starEach [] X.env := by rfl) (hp : (backTo q (starEach [e2] X.env)).any (·.1) = false := by rfl) (n1 : starEach [.Call (.Name "range" p2) [e, e2] [] q] X.env = (false, eval (.Call (.Name "range" p2) [e, e2] [] q) X.env) :: starEach [] X.env := by rfl) :
    SL X (.Call (.Name "list" p) [.Call (.Name "range" p2) [e, e2] [] q] [] pos) (fun E => (m E).bind fun d => (m' E).bind fun d' => match d, d' with
      | .int i, .int j => if (rgOk i && rgOk j) = true then leaf (rangeD i j) else fail
      | _, _ => fail) := by
  refine ⟨PE.weak (pe_listRg hc hg hm (prg_2 hg2 hm2 ha.pe hb.pe na nb hp) n1) fun σ H Q ⟨B, F, E, g, rl, q⟩ => ?_⟩
  refine ⟨B, F, E, g, rl, Tree.all_mono (fun d k v F1 H1 e1 p1 => ⟨B, F1, E, e1.good, rl.ext e1, Tree.all_mono (fun d' k v' F2 H2 e2 p2 => ?_) (Tree.all_bind.mp k)⟩) (Tree.all_bind.mp q)⟩
  have p1 := p1.ext e2
  cases d with
  | int i =>
    cases d' with
    | int j =>
      cases p1.int
      cases p2.int
      have k : (if (rgOk i && rgOk j) = true then leaf (rangeD i j) else fail).all _ := k
      by_cases h : (rgOk i && rgOk j) = true
      · rw [if_pos h] at k
        unfold rgOk at h
        simp only [Bool.and_eq_true, decide_eq_true_eq] at h
        refine ⟨i, j, rfl, rfl, RgOk.of_le h.1.1 h.2.2 h.1.2 h.2.1, fun l hl => ?_⟩
        have f := e2.good.free hl
        exact k l _ F2 _ ((e1.trans e2).trans (Ext.new e2.good hl)) upd_same f.1 f.2 (ext_none g (e1.trans e2) hl) (rgV_rep i j)
      · rw [if_neg h] at k
        exact k.elim
    | _ => exact False.elim k
  | _ => exact False.elim k
end
/-! ### pots -/
section
variable {X : Cx} {e : Expr} {pos : Pos}
/-- return [p, q]: the list becomes a pot -/
def oPot (ml : En → Tree (List D)) : En → Tree Out := fun E => (ml E).bind fun ds => match ds with
  | [.int p, .int q] => if (decide (0 ≤ p) && decide (0 ≤ q) && decide (q < 4294967296)) = true then leaf (.rt .pot) else fail
  | _ => fail
theorem s_retpot {ml : En → Tree (List D)} (he : SL X e ml) : SS X (.Return (some e) pos) (oPot ml) := by
  refine ⟨PS.weak (ps_ret he.pe) fun D0 σ H ⟨F0, H0, F, E, ex, r, q⟩ => ?_⟩
  refine ⟨B0 H0, F, E, ex.good, r, Tree.all_mono (fun ds k a xs F1 H1 e1 ha n t h0 rs => ?_) (Tree.all_bind.mp q)⟩
  split at k
  · split at k
    · rename_i h
      simp only [Bool.and_eq_true, decide_eq_true_eq] at h
      have e2 := ex.trans e1
      have hz : NT H0 a := by
        by_cases t0 : F0.T a
        · exact absurd (e2.monoT _ t0) t
        · exact ex.back h0 t0
      cases rs with
      | cons r1 rs =>
        cases rs with
        | cons r2 rs =>
          cases rs
          cases r1
          cases r2
          refine k (.ref a) ⟨F1.P, fun b => F1.T b ∨ b = a⟩ H1 ⟨⟨e2.good.sub, fun b hb => ?_, e2.good.nt, e2.good.tab⟩, e2.mono, fun b hb => .inl (e2.monoT b hb), e2.keep, fun b hb => ?_⟩ ⟨e1.mono, fun b hb => .inl (e1.monoT b hb)⟩ (.pot (.inr rfl))
          · rcases hb with hb | hb
            · exact e2.good.pot b hb
            · subst hb; exact ⟨n, _, _, ha, h.1.1, h.1.2, h.2⟩
          · rcases hb with hb | hb | hb
            · exact e2.fresh b (.inl hb)
            · exact e2.fresh b (.inr hb)
            · subst hb; exact .inr (.inr hz)
    · exact k.elim
  · exact k.elim
def fDraw : List D → Tree D
  | [.pot, .int n] => if (decide (0 < n) && decide (n.natAbs.log2 < 9000)) = true then .draw n.toNat fun i => leaf (.int i) else fail
  | _ => fail
theorem fDraw_len {K : PySem.W.Frag} : ∀ vs H Q E, spF K fDraw vs H Q E → vs.length = 2 := fun vs H Q E ⟨F, ds, g, r, q⟩ => by
  unfold fDraw at q
  split at q
  · exact r.length
  · exact q.elim
/-- a pot's list is changed -/
theorem Ext.pot {F : Fz} {H : Hp} {a : Addr} {p q : Int} (g : Good F H) (t : F.T a) (h0 : 0 ≤ p) (h1 : 0 ≤ q) (h2 : q < 4294967296) : Ext F H F (upd H a (.lst [.int p, .int q])) := by
  have n := (g.pot a t).1
  obtain ⟨p0, q0, hl, _⟩ := (g.pot a t).2
  refine ⟨⟨fun b o h => ?_, fun b tb => ?_, g.nt, tabs_stay g.tab fun b u h nl => ?_⟩, Same.refl _, fun _ h => h, fun b o h nt _ => ?_, fun b h => h.elim .inl fun z => .inr (.inl z)⟩
  · rw [upd_ne (ne_of_none h n)]; exact g.sub b o h
  · by_cases e : b = a
    · subst e; exact ⟨n, p, q, upd_same, h0, h1, h2⟩
    · rw [upd_ne e]; exact g.pot b tb
  · rw [upd_ne (fun z : b = a => by rw [z, hl] at h; cases h; exact nl _ rfl)]; exact h
  · rw [upd_ne (fun e : b = a => nt (by rw [e]; exact t))]; exact h
theorem fDraw_of {K : PySem.W.Frag} {vs : List V} {H : Hp} {Q : VK} {E : XK} (h : spF K fDraw vs H Q E) : ∃ (a : Addr) (n p q : Int), vs = [.ref a, .int n] ∧ H a = some (.lst [.int p, .int q]) ∧ 0 ≤ p ∧ 0 ≤ q ∧ q < 4294967296 ∧ 0 < n ∧ n.natAbs.log2 < 9000 ∧
    ∀ (H' : Hp) (p' q' i : Int), 0 ≤ p' → 0 ≤ q' → q' < 4294967296 → 0 ≤ i → i < n → (∃ T x, H' = upd (upd H T x) a (.lst [.int p', .int q']) ∧ H T = none ∨ H' = upd H a (.lst [.int p', .int q'])) → Q (.int i) H' := by
  obtain ⟨F, ds, g, r, q⟩ := h
  unfold fDraw at q
  split at q
  · split at q
    · rename_i hn
      rw [Bool.and_eq_true, decide_eq_true_eq, decide_eq_true_eq] at hn
      cases r with
      | cons r1 r =>
        cases r with
        | cons r2 r =>
          cases r
          cases r1 with
          | pot t =>
            cases r2
            obtain ⟨nP, p0, q0, hp, h0, h1, h2⟩ := g.pot _ t
            refine ⟨_, _, p0, q0, rfl, hp, h0, h1, h2, hn.1, hn.2, fun H' p' q' i b1 b2 b3 b4 b5 hH => ?_⟩
            have hi := q i.toNat (by omega)
            have hi : ∀ v F' H', Ext F H F' H' → Rep K F' v (.int ((i.toNat : Nat) : Int)) → Q v H' := hi
            rw [Int.toNat_of_nonneg b4] at hi
            obtain ⟨T, x, ⟨e, nT⟩ | e⟩ := hH
            · subst e
              exact hi _ F _ ((Ext.new g nT).trans (Ext.pot (g.new nT) t b1 b2 b3)) (.int i)
            · subst e
              exact hi _ F _ (Ext.pot g t b1 b2 b3) (.int i)
    · exact q.elim
  · exact q.elim
end
end R

set_option Elab.async false
set_option linter.all false
set_option maxRecDepth 100000
namespace R
open PySem PySem.Spec PyProof.Rows L2
open Tree (leaf fail)
section
variable {X : Cx} {e : Expr} {m : En → Tree D} {p pos : Pos} {x : Str}
def opNeg : D → Tree D
  | .int i => leaf (.int (-i))
  | _ => fail
theorem se_neg (ha : SP X e m) : SE X (.UnaryOp .USub e pos) (m1 opNeg m) := by
  refine ⟨PE.weak (pe_un un_neg ha.pe) fun σ H Q ⟨B, F, E, g, rl, q⟩ => ?_⟩
  refine ⟨B, F, E, g, rl, Tree.all_mono (fun d k v F1 H1 e1 p1 => ?_) (Tree.all_bind.mp q)⟩
  cases d with
  | int i => exact ⟨i, p1.int, k _ F1 H1 e1 (.int _)⟩
  | _ => exact False.elim k
def oPar3 (i j l : Nat) (ma : En → Tree (List D)) : En → Tree Out := fun E => (ma E).bind fun ds => match ds with
  | [a, b, c] => leaf (.nx (((E.put i a).put j b).put l c))
  | _ => fail
theorem s_par3 {st : Stmt} {i j l : Nat} {ta : TA} {ma : En → Tree (List D)} (h : PS X st (tPar3 i j l ta)) (w : ∀ σ H Q, tA X.K ma σ H Q → ta σ H Q) : SS X st (oPar3 i j l ma) := by
  refine ⟨PS.weak h fun D0 σ H ⟨F0, H0, F, E, e, r, q⟩ => w _ _ _ ?_⟩
  refine ⟨B0 H0, F, E, e.good, r, Tree.all_mono (fun ds k vs F' H' e' p => ?_) (Tree.all_bind.mp q)⟩
  cases p with
  | nil => exact False.elim k
  | cons p1 p =>
    cases p with
    | nil => exact False.elim k
    | cons p2 p =>
      cases p with
      | nil => exact False.elim k
      | cons p3 p =>
        cases p with
        | nil => exact ⟨_, _, _, rfl, k _ F' H' (e.trans e') e'.le ((((r.ext e').put i p1).put j p2).put l p3)⟩
        | cons _ _ => exact False.elim k
end
/-! ### defs by name -/
structure CalR (P : Program) (w : World) (K : PySem.W.Frag) (mg : Str → Option Value) (base : Heap) (k : Nat) (x : Str) (fn : List D → Tree D) : Prop where
  ex : ∃ (f : Addr) (fd : FuncData) (ps : List Str), FnOk P w K mg base CX0 k f fd ps (spF K fn) ∧ mg x = some (.ref f) ∧ PySem.W.keepIn K (.ref f) = true ∧ Binds K fd ps []
structure CalK (P : Program) (w : World) (K : PySem.W.Frag) (mg : Str → Option Value) (base : Heap) (k : Nat) (x : Str) (fn : List D → Tree D) (ks : List Str) (is : List Nat) : Prop where
  ex : ∃ (f : Addr) (fd : FuncData) (ps : List Str), FnOk P w K mg base CX0 k f fd ps (spF K fn) ∧ mg x = some (.ref f) ∧ PySem.W.keepIn K (.ref f) = true ∧ KwBinds K fd ps ks is
structure ConR (K : PySem.W.Frag) (mg : Str → Option Value) (x : Str) (d : D) : Prop where
  ex : ∃ v u, mg x = some u ∧ RelV v u ∧ ∀ F, Rep K F v d
/-- where a def stands behind the top -/
structure At (K : PySem.W.Frag) (mg : Str → Option Value) (x : Str) (st : Stmt) : Prop where
  ex : ∃ (f : Addr) (fd : FuncData), Fun K x x st f fd ∧ mg x = some (.ref f)
section
variable {X : Cx} {k j : Nat} {x : Str} {fn : List D → Tree D} {p pos : Pos} {e : Expr} {es : List Expr} {ma : En → Tree (List D)}
theorem se_c (c : CalR X.prog X.w X.K X.mg X.base k x fn) (hr : Room j X.A) (hk : k ≤ j) (hg : Gl X x) (ha : SA X (e :: es) ma) (hdb : (x == ("__debug__" : Str)) = false := by decide)
    (he : starEach (e :: es) X.env = (false, eval e X.env) :: starEach es X.env := by rfl) (hpl : (backTo pos (starEach es X.env)).any (·.1) = false := by rfl) : SE X (.Call (.Name x p) (e :: es) [] pos) (mA fn ma) := by
  obtain ⟨f, fd, ps, F, hm, kp, b⟩ := c.ex
  exact se_call F (hr.mono hk) hg hm kp b ha hdb he hpl
theorem se_k {ks : List Str} {is : List Nat} {kws : List Keyword} {mk : En → Tree (List D)} (c : CalK X.prog X.w X.K X.mg X.base k x fn ks is) (hr : Room j X.A) (hk : k ≤ j) (hg : Gl X x) (hkw : SK_ X kws mk)
    (hall : (backToKw pos (keywordEach kws X.env)).all (·.1.isSome) = true := by rfl) (hks : (backToKw pos (keywordEach kws X.env)).filterMap (·.1) = ks := by rfl) (hdb : (x == ("__debug__" : Str)) = false := by decide)
    (hpl : ((backTo pos (starEach [] X.env)).any (·.1) || (backToKw pos (keywordEach kws X.env)).any (·.1.isNone)) = false := by rfl) : SE X (.Call (.Name x p) [] kws pos) (mA (fun ds => fn (permD is ds)) mk) := by
  obtain ⟨f, fd, ps, F, hm, kp, b⟩ := c.ex
  exact se_callKw F (hr.mono hk) hg hm kp b hkw hall hks hdb hpl
theorem se_con {d : D} (c : ConR X.K X.mg x d) (hg : Gl X x) (hd : (x == ("__debug__" : Str)) = false := by decide) : SE X (.Name x pos) (fun _ => leaf d) := by
  obtain ⟨v, u, hm, r, rp⟩ := c.ex
  exact se_of (pe_glob hg hm r hd) rp
theorem se_ty {T : String} (hg : Gl X x) (hm : X.mg x = none) (hv : bootBuiltins x = some (.type T)) (hn : x ≠ "__name__" := by decide) (hd : (x == ("__debug__" : Str)) = false := by decide) : SE X (.Name x pos) (fun _ => leaf (.ty T)) :=
  se_of (pe_bltn (v := .ty T) hg hm hv rfl hn hd) fun _ => .ty T
end
section
variable {P : Program} {w : World} {K : PySem.W.Frag} {mg : Str → Option Value} {base : Heap}
theorem cal_mk {x : Str} {st : Stmt} {fn : List D → Tree D} {k : Nat} {ps : List Str} (a : At K mg x st) (c : ∀ f fd, Fun K x x st f fd → FnOk P w K mg base CX0 k f fd ps (spF K fn))
    (hb : ∀ (kV doc pm : Value) (an : Option Addr) (cdv ct : Value) (us : List Value), us.length = ps.length → bindArgs (PySem.W.fnOf x x (defArgs st) (defBody st) (defScope st) .none kV doc pm an cdv ct) ⟨us, []⟩ = pure (ps.zip us)) : CalR P w K mg base k x fn := by
  obtain ⟨f, fd, F, hm⟩ := a.ex
  exact ⟨f, fd, ps, c f fd F, hm, F.kp, F.binds hb⟩
theorem kw_of {x : Str} {st : Stmt} {fn : List D → Tree D} {k : Nat} {ps ks : List Str} {is : List Nat} (a : At K mg x st) (c : ∀ f fd, Fun K x x st f fd → FnOk P w K mg base CX0 k f fd ps (spF K fn))
    (hb : ∀ (kV doc pm : Value) (an : Option Addr) (cdv ct : Value) (ws : List Value), (is.filterMap fun i => ws[i]?).length = ps.length → bindArgs (PySem.W.fnOf x x (defArgs st) (defBody st) (defScope st) .none kV doc pm an cdv ct) ⟨[], ks.zip ws⟩ = pure (ps.zip (is.filterMap fun i => ws[i]?))) :
    CalK P w K mg base k x fn ks is := by
  obtain ⟨f, fd, F, hm⟩ := a.ex
  have F0 := F
  obtain ⟨oc, od, kV, doc, pm, an, cdv, ct, osl, e, lk, hcd⟩ := F.ex
  refine ⟨f, fd, ps, c f fd F0, hm, F.kp, ⟨fun s ws _ hl => ?_⟩⟩
  rw [e]
  exact .of_eq (hb kV doc pm an cdv ct ws hl)
theorem at_of {x : Str} {st : Stmt} {h : Heap} {f : Addr} {oc kV dc pm cd ct : Value} {od an : Option Addr} {sl : Array (Option Value)} (X : K.In h) (G : h.Ns mainGlobals mg)
    (a : PySem.W.nsIn K mainGlobals x = some (some (.ref f))) (l : K.lookup f = some ⟨oc, od, .func (PySem.W.fnOf x x (defArgs st) (defBody st) (defScope st) .none kV dc pm an cd ct), sl⟩) (c : PySem.W.codeIn K cd x = true) (k : PySem.W.keepIn K (.ref f) = true) : At K mg x st :=
  ⟨f, _, fun_mk l c k, PySem.W.mg_of X G a⟩
theorem con_int {x : Str} {h : Heap} {i : Int} {t : Tok} (X : K.In h) (G : h.Ns mainGlobals mg) (a : PySem.W.nsIn K mainGlobals x = some (some (.int i t))) : ConR K mg x (.int i) :=
  ⟨.int i, _, PySem.W.mg_of X G a, ⟨t, rfl⟩, fun _ => .int i⟩
/-- a pair of ints of the module -/
theorem con_pair {x : Str} {h : Heap} {i j : Int} {t u : Tok} {ad : Addr} {dd : Option Addr} {n : Nat} {sl : Array (Option Value)} (X : K.In h) (G : h.Ns mainGlobals mg) (a : PySem.W.nsIn K mainGlobals x = some (some (.ref ad)))
    (l : K.lookup ad = some ⟨.type "tuple", dd, .seq #[.int i t, .int j u] n, sl⟩) : ConR K mg x (.tup [.int i, .int j]) :=
  ⟨.ref ad, _, PySem.W.mg_of X G a, rfl, fun F => .tup (xs := [.int i, .int j]) (.inr ⟨_, _, n, l, rfl, rfl, by show 2 ≤ sizeLine; decide, .cons ⟨_, rfl⟩ (.cons ⟨_, rfl⟩ .nil)⟩) (.cons (.int i) (.cons (.int j) .nil))⟩
theorem con_loose {q : Program} {lv : List (Str × PySem.W.WData)} {h : Heap} {x : Str} {i : Int} (X : PySem.W.XL q lv mg h) (hm : (x, PySem.W.WData.int i) ∈ lv) : ConR K mg x (.int i) := by
  obtain ⟨v, h1, h2⟩ := X.2.val _ hm
  cases h2
  exact ⟨.int i, _, h1, ⟨_, rfl⟩, fun _ => .int i⟩
end
end R
namespace R
theorem noPy {i j : Int} (h : j.natAbs.log2 < 9000) : PySem.Builtin.divisionGoesByPylong i j = false := PyProof.noPylong_of_log2 h
end R

set_option Elab.async false
set_option linter.all false
set_option maxRecDepth 100000
set_option maxHeartbeats 1000000
/-! the guards' state is carried along: what repr of a container asks -/
namespace R
open PySem PySem.Spec PyProof.Rows L2
open Tree (leaf fail)
def Gd (A : Around) : Prop := A.guards = some []
/-- a def's promise where nothing stands on the guards' pile -/
structure FnG (P : Program) (w : World) (K : PySem.W.Frag) (mg : Str → Option Value) (base : Heap) (k : Nat) (f : Addr) (fd : FuncData) (ps : List Str) (sp : Sp) : Prop where
  many : ∀ vs H Q E, sp vs H Q E → vs.length = ps.length
  goes : ∀ (A : Around) (over : List Env) (s : Shared) (H : Hp) (args : Args) (us : List Value) (vs : List V) (Q : VK) (E : XK), Gd A → Room k A → Env0 P w K mg base A over s H →
    BindsTo s fd args (ps.zip us) → Vals vs us → sp vs H Q E → codeAny (model P w) A (.call (.ref f) args) (CR CX0 over P w H s Q E) s
theorem FnG.of {P : Program} {w : World} {K : PySem.W.Frag} {mg : Str → Option Value} {base : Heap} {k : Nat} {f : Addr} {fd : FuncData} {ps : List Str} {sp : Sp} (F : FnOk P w K mg base CX0 k f fd ps sp) : FnG P w K mg base k f fd ps sp :=
  ⟨F.len, fun A over s H args us vs Q E _ => F.run A over s H args us vs Q E⟩
section
variable {X : Cx}
/-- repr of data without dicts -/
def rReprP (K : PySem.W.Frag) : List V → Hp → VK → Prop := fun xs H Q => ∃ v d, xs = [v] ∧ Dp K H v d ∧ d.showable = true ∧ d.hasDict = false ∧ d.depth ≤ 60 ∧ d.shown.length ≤ sizeLine ∧ Q (.str d.shown) H
theorem cr_reprP (hG : Gd X.A) (hu : X.A.units + 64 < cLine) : CallR X (.builtin "repr") (rReprP X.K) := by
  intro pins s σ H xs us Q I r h
  obtain ⟨v, d, rfl, dp, hs, hd, hdp, hl, q⟩ := h
  obtain ⟨u, rfl, rv⟩ := vals1 r
  obtain ⟨as, rd⟩ := Dp.reads I d v u dp rv
  cases d with
  | none => cases dp; cases rv; exact PySem.P.repr_of_none ⟨.str _, H, I.tok _, ⟨_, rfl⟩, q⟩
  | bool b => cases dp; cases rv; exact PySem.P.repr_of_bool ⟨.str _, H, I.tok _, ⟨_, rfl⟩, q⟩
  | int i => cases dp; obtain ⟨t, rfl⟩ := rv; exact PySem.P.repr_of_int (by simpa [PyData.showable] using hs) ⟨.str _, H, I.tok _, ⟨_, rfl⟩, q⟩
  | str x => cases dp; obtain ⟨t, rfl⟩ := rv; exact PySem.P.repr_of_str ⟨.str _, H, I.tok _, ⟨_, rfl⟩, q⟩ hl
  | list ds =>
    cases dp with
    | lst _ _ =>
      cases rv
      exact repr_of_reads' rd hs (PyData.noDict_hsm hd) hG (by omega) (fun _ _ e => e) (fun h' t tk k => ⟨.str _, H, I.kept k, ⟨t, rfl⟩, q⟩) hl
  | tuple ds =>
    cases dp with
    | tup _ _ =>
      cases rv
      exact repr_of_reads' rd hs (PyData.noDict_hsm hd) hG (by omega) (fun _ _ e => e) (fun h' t tk k => ⟨.str _, H, I.kept k, ⟨t, rfl⟩, q⟩) hl
  | dict _ => cases dp
def rReprD : List V → Hp → VK → Prop := fun xs H Q => ∃ a, xs = [.ref a] ∧ H a = some (.dK []) ∧ Q (.str "{}") H
theorem cr_reprD (hG : Gd X.A) (hu : X.A.units + 64 < cLine) : CallR X (.builtin "repr") rReprD := by
  intro pins s σ H xs us Q I r h
  obtain ⟨a, rfl, ha, q⟩ := h
  obtain ⟨u, rfl, rv⟩ := vals1 r
  cases rv
  obtain ⟨_, hsm, vs, kv, o, es, ep, ho, hx, hd, _, hp, _⟩ := dk_of I.hok ha
  cases kv
  have he : es.toList = [] := by
    generalize es.toList = l at hp
    cases hp; rfl
  have rd : Reads s.heap (.ref a) (.dict []) ([a] ++ []) := .dict ho hx.1 hd (by rw [he]; exact .nil) (by rw [he]; exact .nil)
  exact repr_of_reads' rd (by decide +kernel) (fun _ hm => by
    have : sysModules = a := by simpa using hm
    rw [this] at hsm
    simp at hsm) hG (by rw [show (PyData.dict []).depth = 1 by decide +kernel]; omega) (fun _ _ e => e) (fun h' t tk k => ⟨.str _, H, I.kept k, ⟨t, rfl⟩, q⟩) (by decide +kernel)
def rRepr (K : PySem.W.Frag) : List V → Hp → VK → Prop := fun xs H Q => rReprP K xs H Q ∨ rReprD xs H Q
theorem cr_repr (hG : Gd X.A) (hu : X.A.units + 64 < cLine) : CallR X (.builtin "repr") (rRepr X.K) := CallR.or (cr_reprP hG hu) (cr_reprD hG hu)
end
section
variable {P : Program} {w : World} {K : PySem.W.Frag} {mg : Str → Option Value} {base : Heap}
/-- a def's promise by its body's reading, the guards' state known -/
theorem fnG_body {x qual : Str} {st : Stmt} {f : Addr} {fd : FuncData} {N ps : List Str} {k : Nat} {sp : Sp} (F : Fun K x qual st f fd) (S : FnScope N ps (defScope st))
    (many : ∀ vs H Q E, sp vs H Q E → vs.length = ps.length)
    (hb : ∀ (cdv : Value) (A : Around) (over : List Env) (s : Shared) (H : Hp) (vs : List V) (Q : VK) (E : XK), fd.code = cdv → Gd A → Room k (A.deeper (envOfC qual (defScope st) s.heap.objs.size f cdv)) →
      sp vs H Q E → ∃ t, PSs (cxOf CX0 P w K mg base N qual (defScope st) f cdv A over s H E).nox (defBody st) t ∧
        t { nx := fun _ H' => Q .non H', rt := Q } (start N vs) H) : FnG P w K mg base (k + 1) f fd ps sp := by
  obtain ⟨oc, od, kV, dc, pm, an, cdv, ct, sl, rfl, lk, hcd⟩ := F.ex
  refine ⟨many, fun A over s H args us vs Q E hG hr e0 bd r hsp => ?_⟩
  have n1 := many _ _ _ _ hsp
  have inK : K.In s.heap := e0.mod.kin.keeps fun b o e => (e0.bs b o e).1
  have room := e0.mod.nolimit.keeps (h' := s.heap) fun b o e => (e0.bs b o e).1
  have names : ∀ y ∈ ps.zip us, (defScope st).names.lookup y.1 = some .local ∨
      ((defScope st).names.lookup y.1 = some .cell ∧ ((cellsFrom (s.heap.objs.size + 1) (defScope st).names []).lookup y.1).isSome = true) := by
    intro ⟨n, v⟩ hy
    exact (S.par n (List.of_mem_zip hy).1).imp id fun q => ⟨q, PySem.W.cellsFrom_some _ _ _ (.inl q)⟩
  refine codeAny_call_function hr.depth (inK _ _ lk) rfl S.co S.gen rfl
    (PySem.W.codeRec_of inK hcd) (bd _ _ _ _ ?_)
  refine wpAny_newFunctionEnv_cells S.kind names
    fun env he s1 y => ?_
  cases he
  refine ⟨room.keeps y.toInCall.keep, codeAny_func ?_⟩
  obtain ⟨t, ht, hq⟩ := hb cdv A over s H vs Q E rfl hG (hr.deeper _) hsp
  have J := inv_start (CX := CX0) (E := E) S hr.hd e0 n1 r y
  refine wpAny_mono (ht.nox.run [] s1 (start N vs) H _ J hq)
    (fun fl s' hs => ?_) fun e s' hs => hs
  cases fl with
  | brk => obtain ⟨_, _, _, no⟩ := hs; cases no
  | cont => obtain ⟨_, _, _, no⟩ := hs; cases no
  | ret u =>
    obtain ⟨v, _, H', J', rv, q⟩ := hs
    exact ⟨v, H', J'.os, J'.bare, J'.base, J'.hok, rv, q⟩
  | next =>
    obtain ⟨_, H', J', q⟩ := hs
    exact ⟨V.non, H', J'.os, J'.bare, J'.base, J'.hok, rfl, q⟩
theorem def_okG {x qual : Str} {st : Stmt} {f : Addr} {fd : FuncData} {N ps : List Str} {k : Nat} {m : En → Tree Out} (np n : Nat) (F : Fun K x qual st f fd) (S : FnScope N ps (defScope st)) (hn : N.length = n) (hp : ps.length = np)
    (hbody : ∀ (cdv : Value) (A : Around) (outer : List Env) (s : Shared) (H : Hp) (E : XK), fd.code = cdv → Gd A → Room k (A.deeper (envOfC qual (defScope st) s.heap.objs.size f cdv)) →
      SSs (cxOf CX0 P w K mg base N qual (defScope st) f cdv A outer s H E).nox (defBody st) m) : FnG P w K mg base (k + 1) f fd ps (spF K (mDef np n m)) := by
  subst hn hp
  refine fnG_body F S (fun vs H Q E h => spF_len vs H Q E h) (fun cdv A outer s H vs Q E hcv hG hr h => ?_)
  obtain ⟨F, ds, g, r, q⟩ := h
  refine ⟨_, (hbody cdv A outer s H E hcv hG hr).ps, F, H, F, En.start N.length ds, Ext.refl g, rel_start r N, ?_⟩
  unfold mDef at q
  split at q
  · refine Tree.all_mono (fun o k => ?_) (Tree.all_bind.mp q)
    cases o with
    | nx E => exact fun σ' F' H' e l r => k .non F' H' e .non
    | rt d => exact fun v F' H' e l r => k v F' H' e r
    | bk E => exact False.elim k
    | ct E => exact False.elim k
  · exact q.elim
end
section
variable {X : Cx} {k : Nat} {f : Addr} {fd : FuncData} {ps : List Str} {x : Str} {fn : List D → Tree D} {p pos : Pos} {e : Expr} {es : List Expr} {ma : En → Tree (List D)}
theorem goG {pins : List (Addr × Obj)} {σ : L2.St} {H : Hp} {s : Shared} {Q : VK} {vs : List V} {sp : Sp} {args : Args} {zs : List Value} (F : FnG X.prog X.w X.K X.mg X.base k f fd ps sp) (hG : Gd X.A) (hr : Room k X.A)
    (I : Inv X pins σ H s) (bd : BindsTo s fd args (ps.zip zs)) (r : Vals vs zs) (h : sp vs H Q E0) : codeAny (model X.prog X.w) X.A (.call (.ref f) args) (fun r s' => match r with
      | .ok (.ret u) => EP X pins σ Q u s'
      | _ => False) s := by
  refine codeAny_mono (F.goes X.A X.stack s H args zs vs Q E0 hG hr I.env0 bd r h) fun r s' hq => ?_
  cases r with
  | error e => exact False.elim hq
  | ok fl =>
    cases fl with
    | ret u => exact I.after hq
    | next => exact False.elim hq
    | brk => exact False.elim hq
    | cont => exact False.elim hq
theorem se_callG (F : FnG X.prog X.w X.K X.mg X.base k f fd ps (spF X.K fn)) (hG : Gd X.A) (hr : Room k X.A) (hg : Gl X x) (hm : X.mg x = some (.ref f)) (hk : PySem.W.keepIn X.K (.ref f) = true) (hb : Binds X.K fd ps [])
    (ha : SA X (e :: es) ma) (hdb : (x == ("__debug__" : Str)) = false := by decide) (he : starEach (e :: es) X.env = (false, eval e X.env) :: starEach es X.env := by rfl) (hpl : (backTo pos (starEach es X.env)).any (·.1) = false := by rfl) :
    SE X (.Call (.Name x p) (e :: es) [] pos) (mA fn ma) := by
  refine ⟨PE.weak (t := fun σ H Q => tA X.K ma σ H fun vs H1 => spF X.K fn vs H1 Q E0) ⟨fun pins s σ H Q I h => ?_⟩ fun σ H Q ⟨B, F, E, g, rl, q⟩ => ?_⟩
  · refine wpAny_Call_Name_kw (ld_glob I hg hm ?_ hdb)
    refine PySem.W.callWith_K (h₀ := X.base) I.ok.mod.kin hk (thn (ha.pa.run pos pins s σ H _ I h) fun us s1 ⟨vs, H1, I1, r, q⟩ => ⟨I1.kIn, ?_⟩) he hpl
    have hl := r.length.symm.trans (F.many _ _ _ _ q)
    have bd := hb s1 us I1.kIn (by rw [List.append_nil]; exact hl)
    rw [List.append_nil] at bd
    refine wpAny_call (codeAny_mono (goG F hG hr I1 bd r q) fun r s' hq => ?_)
    cases r with
    | error e => exact False.elim hq
    | ok fl =>
      cases fl with
      | ret u => exact hq
      | next => exact False.elim hq
      | brk => exact False.elim hq
      | cont => exact False.elim hq
  · exact ⟨B, F, E, g, rl, Tree.all_mono (fun ds k vs F1 H1 e1 p1 => ⟨F1, ds, e1.good, p1, Tree.all_mono (fun z kz w F2 H2 e2 rz => kz w F2 H2 (e1.trans e2) rz) k⟩) (Tree.all_bind.mp q)⟩
theorem se_callKwG {ks : List Str} {kws : List Keyword} {is : List Nat} {mk : En → Tree (List D)} (F : FnG X.prog X.w X.K X.mg X.base k f fd ps (spF X.K fn)) (hG : Gd X.A) (hr : Room k X.A) (hg : Gl X x) (hm : X.mg x = some (.ref f)) (hk : PySem.W.keepIn X.K (.ref f) = true)
    (hb : KwBinds X.K fd ps ks is) (hkw : SK_ X kws mk) (hall : (backToKw pos (keywordEach kws X.env)).all (·.1.isSome) = true := by rfl) (hks : (backToKw pos (keywordEach kws X.env)).filterMap (·.1) = ks := by rfl) (hdb : (x == ("__debug__" : Str)) = false := by decide)
    (hpl : ((backTo pos (starEach [] X.env)).any (·.1) || (backToKw pos (keywordEach kws X.env)).any (·.1.isNone)) = false := by rfl) :
    SE X (.Call (.Name x p) [] kws pos) (mA (fun ds => fn (permD is ds)) mk) := by
  refine ⟨⟨fun pins s σ H Q I ⟨B, F', E, g, rl, q⟩ => ?_⟩⟩
  refine wpAny_Call_Name_kw (ld_glob I hg hm ?_ hdb)
  refine PySem.W.callWith_KW0 (h₀ := X.base) I.ok.mod.kin hk hall (thn (hkw.pk.run pos pins s σ H (fun vs H1 => spF X.K fn (is.filterMap fun i => vs[i]?) H1 Q E0) I ⟨B, F', E, g, rl, Tree.all_mono (fun ds k vs F1 H1 e1 p1 => ?_) (Tree.all_bind.mp q)⟩) fun ws s2 ⟨zs, H2, I2, rz, q2⟩ => ⟨I2.kIn, ?_⟩) hpl
  · exact ⟨F1, permD is ds, e1.good, perm_rep p1 is, Tree.all_mono (fun z kz w F2 H2 e2 rz => kz w F2 H2 (e1.trans e2) rz) k⟩
  · rw [hks]
    have r2 := perm_vals rz is
    have hl := r2.length.symm.trans (F.many _ _ _ _ q2)
    refine wpAny_call (codeAny_mono (goG F hG hr I2 (hb.to s2 ws I2.kIn hl) r2 q2) fun r s' hq => ?_)
    cases r with
    | error e => exact False.elim hq
    | ok fl =>
      cases fl with
      | ret u => exact hq
      | next => exact False.elim hq
      | brk => exact False.elim hq
      | cont => exact False.elim hq
end
end R

namespace R
open PySem PySem.Spec PyProof.Rows L2
/-- what is known of the tables at the law's start -/
structure TbF (K : PySem.W.Frag) (h : Heap) : Prop where
  nil : ∀ x ∈ TBC, h.get? x.2.1 = some { cls := .none, data := .fields #[] }
  out : ∀ x ∈ TBC, K.lookup x.2.1 = none
  cod : ∀ x ∈ TBC, PySem.W.CodeHd h x.1 x.2.1
theorem TbF.none {K : PySem.W.Frag} {h : Heap} (e : TBC = []) : TbF K h := by
  constructor <;> (intro x hx; rw [e] at hx; cases hx)
def isTb (b : Addr) : Prop := ∃ x ∈ TBC, x.2.1 = b
/-- the law's call, by a promise that knows the guards -/
theorem law_callG {P : Program} {w : World} {K : PySem.W.Frag} {mg mb : Str → Option Value} {k : Nat} {fa a : Addr}
    {fd : FuncData} {x : Str} {sp : Sp} {s₁ : Shared} {us : List Value} {ns : List Int}
    (kin : K.In s₁.heap) (hmg : s₁.heap.Ns mainGlobals mg) (hmb : s₁.heap.Ns builtinsNs mb)
    (boot : ∀ x : Str, x ≠ "__name__" → mb x = bootBuiltins x) (noLim : s₁.heap.NoLimit) (gen : s₁.gens = #[]) (tb : TbF K s₁.heap)
    (bmod : ∃ (m : Addr) (om : Obj), mg "__builtins__" = some (.ref m) ∧ m ≠ builtinsNs ∧ s₁.heap.get? m = some om ∧ om.cls = .type "module" ∧ om.dict = some builtinsNs ∧ om.data = .plain)
    (atA : s₁.heap.get? a = some { cls := .type "list", data := .seq us.toArray }) (hints : IntsAre us ns) (len : ns.length ≤ sizeLine) (room : Room k callerA)
    (F : ∀ base : Heap, K.In base → base.Ns mainGlobals mg → (∀ x ∈ TBC, LamX.TabB base mg x.1 x.2.1) → FnG P w K mg base k fa fd [x] sp)
    (bind : ∀ (s : Shared) (u : Value), BindsTo s fd ⟨[u], []⟩ [(x, u)])
    (says : ∀ H : Hp, (∀ b ps, H b = some (.tbl ps) → isTb b) → (∀ x ∈ TBC, H x.2.1 = some (.tbl #[])) → SqL K H a (ns.map V.int) → sp [.ref a] H (fun v _ => v = .bl true) E0) :
    codeAny (model P w) callerA (.call (.ref fa) ⟨[.ref a], []⟩)
      (fun r s' => r = .ok (.ret (.bool true)) ∧ OldK s₁.heap s'.heap ∧ s'.os = s₁.os ∧ AllBare s'.gens) s₁ := by
  have vals := vals_ints hints
  have sameLen := hints.length
  have tbAt : ∀ {b : Addr}, isTb b → s₁.heap.get? b = some { cls := .none, data := .fields #[] } := fun ⟨x, hx, e⟩ => e ▸ tb.nil x hx
  have aNot : ¬ isTb a := fun z => by
    have := tbAt z
    rw [atA] at this
    cases (congrArg Obj.data (Option.some.inj this) : Data.seq us.toArray _ = Data.fields #[])
  have main : ∀ H : Hp, (∀ b, H b = none ∨ (isTb b ∧ H b = some (.tbl #[])) ∨ (b = a ∧ ∃ o xs, H b = some (.frz o (.lst xs)))) → (∀ x ∈ TBC, H x.2.1 = some (.tbl #[])) → SqL K H a (ns.map V.int) → HOk P w H s₁.heap →
      (H a ≠ none → K.lookup a = none) → codeAny (model P w) callerA (.call (.ref fa) ⟨[.ref a], []⟩)
        (fun r s' => r = .ok (.ret (.bool true)) ∧ OldK s₁.heap s'.heap ∧ s'.os = s₁.os ∧ AllBare s'.gens) s₁ := by
    intro H three tabs seq ok notK
    have back : ∀ {b : Addr} {o : Obj}, s₁.heap.get? b = some o →
        H b = none → (hidT s₁.heap H).get? b = some o := fun e n => hidT_get e n
    -- what is neither a list nor an empty table is not tracked
    have plainFree : ∀ {b : Addr} {o : Obj}, s₁.heap.get? b = some o → (∀ v n, o.data ≠ .seq v n) → o.data ≠ .fields #[] → H b = none := by
      intro b o e d1 d2
      rcases three b with z | ⟨z, _⟩ | ⟨z, _⟩
      · exact z
      · rw [tbAt z] at e; cases e; exact absurd rfl d2
      · rw [z, atA] at e; cases e; exact absurd rfl (d1 _ _)
    have dictFree : ∀ {b : Addr} {o : Obj} {es : Array DictEntry} {ep : Nat}, s₁.heap.get? b = some o →
        o.data = .dict es ep → H b = none := fun e d => plainFree e (fun _ _ z => by rw [d] at z; cases z) fun z => by rw [d] at z; cases z
    have space : ∀ {b : Addr} {m : Str → Option Value}, s₁.heap.Ns b m → (hidT s₁.heap H).Ns b m := by
      rintro b m ⟨o, es, ep, e, d, r⟩
      exact ⟨o, es, ep, back e (dictFree e d), d, r⟩
    have kept : K.In (hidT s₁.heap H) := by
      intro b o e
      refine back (kin b o e) ?_
      rcases three b with z | ⟨⟨x, hx, ex⟩, _⟩ | ⟨z, q⟩
      · exact z
      · rw [← ex, tb.out x hx] at e; cases e
      · obtain ⟨o', xs, q⟩ := q
        rw [z] at e q
        rw [notK (by rw [q]; simp)] at e
        cases e
    have gT : ∀ {b : Addr}, isTb b → mainGlobals ≠ b := fun z q => by
      obtain ⟨o, es, ep, e, d, _⟩ := hmg
      rw [q, tbAt z] at e; cases e; cases d
    have tabsB : ∀ x ∈ TBC, LamX.TabB (hidT s₁.heap H) mg x.1 x.2.1 := fun x hx => by
      have tx : isTb x.2.1 := ⟨x, hx, rfl⟩
      obtain ⟨oc, ws, fl, ft, gs, gt, il, tx1, tx2, c1, c2, c3, c4, crest⟩ := tb.cod x hx
      obtain ⟨m, om, m1, m2, m3, m4, m5, m6⟩ := bmod
      refine ⟨⟨oc, ws, fl, ft, gs, gt, il, tx1, tx2, back c1 (plainFree c1 (fun v n z => by rw [c3] at z; cases z) fun z => ?_), c2, c3, c4, crest⟩, ⟨m, om, m1, m2, fun q => ?_, fun q => ?_, back m3 (plainFree m3 (fun v n z => by rw [m6] at z; cases z) fun z => by rw [m6] at z; cases z), m4, m5, m6⟩, gT tx⟩
      · rw [c3] at z; cases z; simp at c4
      · obtain ⟨o, es, ep, e, d, _⟩ := hmg
        rw [← q, m3] at e; cases e; rw [m6] at d; cases d
      · rw [q, tbAt tx] at m3; cases m3; cases m6
    obtain ⟨mc, l1, l2⟩ := noLim
    have modOk : Mod K mg (hidT s₁.heap H) := ⟨kept, space hmg, ⟨mb, space hmb, boot⟩, ⟨mc, space l1, l2⟩⟩
    have env : Env0 P w K mg (hidT s₁.heap H) callerA [] s₁ H :=
      { frames := rfl, mod := modOk, bs := fun b o e => of_hidT e, bsz := Nat.le_of_eq (hidT_size _ _), funs := trivial
        frf := fun b hb => absurd (show b ∈ ([] : List Addr) from hb) (by simp), hok := ok, bare := .of_eq gen }
    have nt : ∀ b ps, H b = some (.tbl ps) → isTb b := fun b ps q => by
      rcases three b with z | ⟨z, _⟩ | ⟨_, o, xs, z⟩
      · rw [z] at q; cases q
      · exact z
      · rw [z] at q; cases q
    have go := (F _ kept (space hmg) tabsB).goes callerA [] s₁ H ⟨[.ref a], []⟩ [.ref a] [.ref a] _ _ rfl room env
      (bind s₁ (.ref a)) (.cons rfl .nil) (says H nt tabs seq)
    refine codeAny_mono go fun r s' h => ?_
    cases r with
    | error e => exact False.elim h
    | ok fl =>
      cases fl with
      | ret u =>
        obtain ⟨v, H', os, bare, un, ok', ru, q⟩ := h
        cases (show v = .bl true from q)
        obtain rfl : u = Value.bool true := ru
        have same : ∀ b o, ¬ isTb b → s₁.heap.get? b = some o → s'.heap.get? b = some o := fun b o nb e => by
          rcases three b with z | ⟨z, _⟩ | ⟨_, ob, xs, y⟩
          · exact un.keep b o e z (by intro m; exact absurd (show b ∈ ([] : List Addr) from m) (by simp)) (by simp)
          · exact absurd z nb
          · obtain ⟨e1, _⟩ := ok b _ y
            obtain ⟨e2, _⟩ := ok' b _ (un.frzs b ob _ y)
            rw [e] at e1
            cases e1
            exact e2
        have more : ∀ x ∈ TBC, ∃ ps : Array Value, s'.heap.get? x.2.1 = some { cls := .none, data := .fields ps } := fun x hx => by
          obtain ⟨ps, z⟩ := un.tbls x.2.1 #[] (tabs x hx)
          exact ⟨_, ok' x.2.1 _ z⟩
        refine ⟨rfl, ⟨fun b o e => ?_, fun b o e => ?_⟩, os, bare⟩
        · by_cases z : isTb b
          · obtain ⟨x, hx, rfl⟩ := z
            obtain ⟨ps, hp⟩ := more x hx
            rw [tb.nil x hx] at e
            cases e
            exact .inr (.inl ⟨((tb.cod x hx).tab (tb.nil x hx)).isCodeTable, rfl, #[], ps, rfl, by rw [Array.empty_append]; exact hp⟩)
          · exact .inl (same b o z e)
        · by_cases z : isTb b
          · obtain ⟨x, hx, rfl⟩ := z
            obtain ⟨ps, hp⟩ := more x hx
            exact ⟨_, hp⟩
          · exact ⟨o, same b o z e⟩
      | next => exact False.elim h
      | brk => exact False.elim h
      | cont => exact False.elim h
  have okT : ∀ {b : Addr}, isTb b → ObjOk P w (fun _ => none) s₁.heap b (.tbl #[]) := fun z => tbAt z
  classical
  cases own : K.lookup a with
  | some o =>
    have e := kin a o own
    rw [atA] at e
    cases e
    let H : Hp := fun b => if isTb b then some (.tbl #[]) else none
    have at1 : ∀ {b : Addr}, isTb b → H b = some (.tbl #[]) := fun z => if_pos z
    have at0 : ∀ {b : Addr}, ¬ isTb b → H b = none := fun z => if_neg z
    refine main H (fun b => ?_) (fun x hx => at1 ⟨x, hx, rfl⟩) ?_ (fun b u z => ?_) fun z => absurd (at0 aNot) z
    · by_cases z : isTb b
      · exact .inr (.inl ⟨z, at1 z⟩)
      · exact .inl (at0 z)
    · exact .inr ⟨_, us.toArray, _, own, rfl, rfl, rfl, by rw [List.size_toArray, sameLen]; exact len, by simpa using vals⟩
    · by_cases hb : isTb b
      · cases (at1 hb).symm.trans z
        exact tbAt hb
      · cases (at0 hb).symm.trans z
  | none =>
    let o : Obj := { cls := .type "list", data := .seq us.toArray }
    let H : Hp := fun b => if b = a then some (.frz o (.lst (ns.map V.int))) else if isTb b then some (.tbl #[]) else none
    have at1 : H a = some (.frz o (.lst (ns.map V.int))) := if_pos rfl
    have at2 : ∀ {b : Addr}, isTb b → H b = some (.tbl #[]) := fun {b} z => (if_neg (fun e : b = a => aNot (e ▸ z))).trans (if_pos z)
    have at0 : ∀ {b : Addr}, b ≠ a → ¬ isTb b → H b = none := fun n z => (if_neg n).trans (if_neg z)
    refine main H (fun b => ?_) (fun x hx => at2 ⟨x, hx, rfl⟩) (.inl (.inr ⟨o, at1⟩)) (fun b u z => ?_) fun _ => own
    · by_cases hb : b = a
      · exact .inr (.inr ⟨hb, o, _, hb ▸ at1⟩)
      · by_cases z : isTb b
        · exact .inr (.inl ⟨z, at2 z⟩)
        · exact .inl (at0 hb z)
    · by_cases hb : b = a
      · subst hb
        cases at1.symm.trans z
        exact ⟨atA, by rw [List.length_map]; exact len, us, _, vals, atA⟩
      · by_cases z2 : isTb b
        · cases (at2 z2).symm.trans z
          exact tbAt z2
        · cases (at0 hb z2).symm.trans z
end R
namespace R
open PySem PySem.W PyProof.Rows L2
theorem walk_RG {l : OpenLaw} {n k : Nat} {q : Program} {loose : List Str} {XP : (Str → Option Value) → Heap → Prop} {YP : World → Heap → Prop} {d : DefRec} {K : Params → PySem.W.Frag} {x : Str} {fn : List D → Tree D}
    (hn : l.most = some n) (hn2 : n ≤ sizeLine) (hdf : d.params.defaults = []) (hr : Room k callerA) (hY : ∀ (w : World) (h : Heap), YP w h → (K w.params).In h)
    (tabs : ∀ w : World, ∀ x ∈ TBC, ∃ (name : Str) (d : DefRec), (recsOf q).find? (fun e => e.name == name) = some d ∧ PySem.W.tabIn (K w.params) name = some (x.1, x.2.1) ∧ (K w.params).lookup x.2.1 = none)
    (F : ∀ (w : World) (mg : Str → Option Value) (fa : Addr) (h : Heap), XP mg h → (K w.params).In h → h.Ns mainGlobals mg → mg d.name = some (.ref fa) →
      ∃ fd : FuncData, (∀ (s : Shared) (u : Value), BindsTo s fd ⟨[u], []⟩ [(x, u)]) ∧ ∀ base : Heap, (K w.params).In base → base.Ns mainGlobals mg → (∀ x ∈ TBC, LamX.TabB base mg x.1 x.2.1) → FnG l.prog w (K w.params) mg base k fa fd [x] (spF (K w.params) fn))
    (law : ∀ ns : List Int, ns.length ≤ n → (∀ z ∈ ns, Builtin.Int.intBits z ≤ 1048576) → (fn [.scr ns]).all fun r => r = .bl true) :
    WalkO q loose XP YP l.row.toRowW d [] (fun f vs => PySem.call f vs) := by
  refine Att.attach_callB hn hdf fun w s₀ s₁ mg mb fa o pm cd doc a vs ns G Y ho hd hcd hmg hobj hints hlen hbits hg => ?_
  have KX := hY w _ Y
  obtain ⟨fd, hb, hF⟩ := F w mg fa _ G.X KX G.T.g hmg
  have tb : TbF (K w.params) s₁.heap := ⟨fun x hx => by
    obtain ⟨name, dr, h1, h2, h3⟩ := tabs w x hx
    exact (PySem.W.tab_of G.T KX h1 h2).2, fun x hx => by
    obtain ⟨name, dr, h1, h2, h3⟩ := tabs w x hx
    exact h3, fun x hx => by
    obtain ⟨name, dr, h1, h2, h3⟩ := tabs w x hx
    exact (PySem.W.tab_of G.T KX h1 h2).1⟩
  refine law_callG KX G.T.g G.T.b G.T.builtins G.T.nolimit hg tb G.T.bmain hobj hints (Nat.le_trans hlen hn2) hr hF hb fun H hO hTb hS => ?_
  refine ⟨⟨fun b => match H b with | some (.tbl _) => none | z => z, fun _ => False⟩, [.scr ns], ⟨fun b o z => ?_, fun _ h => h.elim, fun b ps z => ?_, fun p hp => ?_⟩, .cons (.scr ?_) .nil, Tree.all_mono (fun r e v F' H' _ rv => ?_) (law ns hlen hbits)⟩
  · revert z
    show (match H b with | some (.tbl _) => none | z => z) = some o → _
    cases e : H b with
    | none => intro z; cases z
    | some u => cases u <;> intro z <;> first | exact z | cases z
  · revert z
    show (match H b with | some (.tbl _) => none | z => z) = some (.tbl ps) → False
    cases e : H b with
    | none => intro z; cases z
    | some u => cases u <;> intro z <;> cases z
  · obtain ⟨y, hy, rfl⟩ := List.mem_map.mp hp
    exact LamX.TabS.nil (hTb y hy)
  · rcases hS with (hS | ⟨o, hS⟩) | hS
    · exact .inl (.inl (by show (match H a with | some (.tbl _) => none | z => z) = _; rw [hS]))
    · exact .inl (.inr ⟨o, by show (match H a with | some (.tbl _) => none | z => z) = _; rw [hS]⟩)
    · exact .inr hS
  · subst e
    cases rv
    rfl
end R
namespace R
open PySem PySem.Spec PyProof.Rows L2
open Tree (leaf fail)
structure CalG (P : Program) (w : World) (K : PySem.W.Frag) (mg : Str → Option Value) (base : Heap) (k : Nat) (x : Str) (fn : List D → Tree D) : Prop where
  ex : ∃ (f : Addr) (fd : FuncData) (ps : List Str), FnG P w K mg base k f fd ps (spF K fn) ∧ mg x = some (.ref f) ∧ PySem.W.keepIn K (.ref f) = true ∧ Binds K fd ps []
structure CalKG (P : Program) (w : World) (K : PySem.W.Frag) (mg : Str → Option Value) (base : Heap) (k : Nat) (x : Str) (fn : List D → Tree D) (ks : List Str) (is : List Nat) : Prop where
  ex : ∃ (f : Addr) (fd : FuncData) (ps : List Str), FnG P w K mg base k f fd ps (spF K fn) ∧ mg x = some (.ref f) ∧ PySem.W.keepIn K (.ref f) = true ∧ KwBinds K fd ps ks is
theorem FnG.mono {P : Program} {w : World} {K : PySem.W.Frag} {mg : Str → Option Value} {base : Heap} {j k : Nat} {f : Addr} {fd : FuncData} {ps : List Str} {sp : Sp} (F : FnG P w K mg base j f fd ps sp) (h : j ≤ k) : FnG P w K mg base k f fd ps sp :=
  ⟨F.many, fun A over s H args us vs Q E hG hr => F.goes A over s H args us vs Q E hG (hr.mono h)⟩
section
variable {X : Cx} {k j : Nat} {x : Str} {fn : List D → Tree D} {p pos : Pos} {e : Expr} {es : List Expr} {ma : En → Tree (List D)}
theorem se_cG (c : CalG X.prog X.w X.K X.mg X.base k x fn) (hG : Gd X.A) (hr : Room j X.A) (hk : k ≤ j) (hg : Gl X x) (ha : SA X (e :: es) ma) (hdb : (x == ("__debug__" : Str)) = false := by decide)
    (he : starEach (e :: es) X.env = (false, eval e X.env) :: starEach es X.env := by rfl) (hpl : (backTo pos (starEach es X.env)).any (·.1) = false := by rfl) : SE X (.Call (.Name x p) (e :: es) [] pos) (mA fn ma) := by
  obtain ⟨f, fd, ps, F, hm, kp, b⟩ := c.ex
  exact se_callG F hG (hr.mono hk) hg hm kp b ha hdb he hpl
theorem se_kG {ks : List Str} {is : List Nat} {kws : List Keyword} {mk : En → Tree (List D)} (c : CalKG X.prog X.w X.K X.mg X.base k x fn ks is) (hG : Gd X.A) (hr : Room j X.A) (hk : k ≤ j) (hg : Gl X x) (hkw : SK_ X kws mk)
    (hall : (backToKw pos (keywordEach kws X.env)).all (·.1.isSome) = true := by rfl) (hks : (backToKw pos (keywordEach kws X.env)).filterMap (·.1) = ks := by rfl) (hdb : (x == ("__debug__" : Str)) = false := by decide)
    (hpl : ((backTo pos (starEach [] X.env)).any (·.1) || (backToKw pos (keywordEach kws X.env)).any (·.1.isNone)) = false := by rfl) : SE X (.Call (.Name x p) [] kws pos) (mA (fun ds => fn (permD is ds)) mk) := by
  obtain ⟨f, fd, ps, F, hm, kp, b⟩ := c.ex
  exact se_callKwG F hG (hr.mono hk) hg hm kp b hkw hall hks hdb hpl
/-- repr(x) -/
def fRepr : List D → Tree D
  | [.dct] => leaf (.str "{}")
  | [d] => if (fitD 12 d && (toPy 12 d).showable && decide ((toPy 12 d).shown.length ≤ sizeLine)) = true then leaf (.str (toPy 12 d).shown) else fail
  | _ => fail
theorem f1_repr {K : PySem.W.Frag} : Fn1 K (rRepr K) fRepr := by
  intro F H vs ds Q g p q
  unfold fRepr at q
  split at q
  · obtain ⟨v, rfl, pk⟩ := pks1 p
    cases pk with
    | rep r =>
      cases r with
      | dct h => exact .inr ⟨_, rfl, g.sub _ _ h, q _ F H (Ext.refl g) (.str _)⟩
  · split at q
    · rename_i h
      simp only [Bool.and_eq_true, decide_eq_true_eq] at h
      obtain ⟨v, rfl, pk⟩ := pks1 p
      exact .inl ⟨v, _, rfl, dpk_of g h.1.1 pk, h.1.2, PyData.hasDict_of_canLay _ (canLay_fit 12 _ h.1.1), Nat.le_trans (depth_py 12 _) (by decide), h.2, q _ F H (Ext.refl g) (.str _)⟩
    · exact q.elim
  · exact q.elim
end
section
variable {P : Program} {w : World} {K : PySem.W.Frag} {mg : Str → Option Value} {base : Heap}
theorem calG_mk {x : Str} {st : Stmt} {fn : List D → Tree D} {k : Nat} {ps : List Str} (a : At K mg x st) (c : ∀ f fd, Fun K x x st f fd → FnG P w K mg base k f fd ps (spF K fn))
    (hb : ∀ (kV doc pm : Value) (an : Option Addr) (cdv ct : Value) (us : List Value), us.length = ps.length → bindArgs (PySem.W.fnOf x x (defArgs st) (defBody st) (defScope st) .none kV doc pm an cdv ct) ⟨us, []⟩ = pure (ps.zip us)) : CalG P w K mg base k x fn := by
  obtain ⟨f, fd, F, hm⟩ := a.ex
  exact ⟨f, fd, ps, c f fd F, hm, F.kp, F.binds hb⟩
theorem kwG_of {x : Str} {st : Stmt} {fn : List D → Tree D} {k : Nat} {ps ks : List Str} {is : List Nat} (a : At K mg x st) (c : ∀ f fd, Fun K x x st f fd → FnG P w K mg base k f fd ps (spF K fn))
    (hb : ∀ (kV doc pm : Value) (an : Option Addr) (cdv ct : Value) (ws : List Value), (is.filterMap fun i => ws[i]?).length = ps.length → bindArgs (PySem.W.fnOf x x (defArgs st) (defBody st) (defScope st) .none kV doc pm an cdv ct) ⟨[], ks.zip ws⟩ = pure (ps.zip (is.filterMap fun i => ws[i]?))) :
    CalKG P w K mg base k x fn ks is := by
  obtain ⟨f, fd, F, hm⟩ := a.ex
  have F0 := F
  obtain ⟨oc, od, kV, doc, pm, an, cdv, ct, osl, e, lk, hcd⟩ := F.ex
  refine ⟨f, fd, ps, c f fd F0, hm, F.kp, ⟨fun s ws _ hl => ?_⟩⟩
  rw [e]
  exact .of_eq (hb kV doc pm an cdv ct ws hl)
end
end R

set_option Elab.async false
set_option linter.all false
set_option maxRecDepth 100000
/-! more words: xs[::-1], list(range(n)), xs + ys as one's own list -/
namespace R
open PySem PySem.Spec PyProof.Rows L2
open Tree (leaf fail)
section
variable {X : Cx} {e : Expr} {m : En → Tree D} {pos : Pos}
theorem reps_rev {K : PySem.W.Frag} {F : Fz} : ∀ {xs : List V} {ds : List D}, Reps K F xs ds → Reps K F xs.reverse ds.reverse
  | [], _, .nil => .nil
  | x :: xs, d :: ds, .cons r rs => by
    rw [List.reverse_cons, List.reverse_cons]
    exact (reps_rev rs).append (.cons r .nil)
def mRevL (m : En → Tree D) : En → Tree (List D) := fun E => (m E).bind fun d => match d with
  | .lst ds => leaf ds.reverse
  | _ => fail
theorem sl_rev {k : Nat} {p1 p2 p3 : Pos} (h : SP X e m) : SL X (.Subscript e (.Slice none none (some (.UnaryOp .USub (.Constant (.int 1) k p1) p2)) p3) pos) (mRevL m) := by
  refine ⟨PE.weak (pe_revL h.pe) fun σ H Q ⟨B, F, E, g, rl, q⟩ => ?_⟩
  refine ⟨B, F, E, g, rl, Tree.all_mono (fun d k v F1 H1 e1 p1 => ?_) (Tree.all_bind.mp q)⟩
  cases d with
  | lst ds =>
    obtain ⟨a, xs, rfl, h1, r1⟩ := p1.lst e1.good
    refine ⟨a, xs, rfl, .of h1, fun p hp => ?_⟩
    have f := e1.good.free hp
    exact k p _ F1 _ (e1.trans (Ext.new e1.good hp)) upd_same f.1 f.2 (ext_none g e1 hp) (reps_rev r1)
  | _ => exact False.elim k
theorem sl_listrg1 {p p2 q : Pos} (hc : X.calm = true) (hg : Gl X "list") (hm : X.mg "list" = none) (hg2 : Gl X "range") (hm2 : X.mg "range" = none) (ha : SP X e m) (na : starEach [e] X.env = (false, eval e X.env) :: starEach [] X.env := by rfl)
    (n1 : starEach [.Call (.Name "range" p2) [e] [] q] X.env = (false, eval (.Call (.Name "range" p2) [e] [] q) X.env) :: starEach [] X.env := by rfl) :
    SL X (.Call (.Name "list" p) [.Call (.Name "range" p2) [e] [] q] [] pos) (fun E => (m E).bind fun d => match d with
      | .int j => if (rgOk 0 && rgOk j) = true then leaf (rangeD 0 j) else fail
      | _ => fail) := by
  refine ⟨PE.weak (pe_listRg hc hg hm (prg_1 hg2 hm2 ha.pe na) n1) fun σ H Q ⟨B, F, E, g, rl, q⟩ => ?_⟩
  refine ⟨B, F, E, g, rl, Tree.all_mono (fun d k v F1 H1 e1 p1 => ?_) (Tree.all_bind.mp q)⟩
  cases d with
  | int j =>
    cases p1.int
    have k : (if (rgOk 0 && rgOk j) = true then leaf (rangeD 0 j) else fail).all _ := k
    by_cases h : (rgOk 0 && rgOk j) = true
    · rw [if_pos h] at k
      unfold rgOk at h
      simp only [Bool.and_eq_true, decide_eq_true_eq] at h
      refine ⟨j, rfl, RgOk.of_le h.1.1 h.2.2 h.1.2 h.2.1, fun l hl => ?_⟩
      have f := e1.good.free hl
      exact k l _ F1 _ (e1.trans (Ext.new e1.good hl)) upd_same f.1 f.2 (ext_none g e1 hl) (rgV_rep 0 j)
    · rw [if_neg h] at k
      exact k.elim
  | _ => exact False.elim k
end
end R

set_option Elab.async false
set_option linter.all false
set_option maxRecDepth 100000
/-! len(set(t)) of a tuple of distinct ints -/
namespace R
open PySem PySem.Spec PyProof.Rows L2
open Tree (leaf fail)
theorem nodup_len_le : ∀ {xs ys : List Int}, xs.Nodup → (∀ x ∈ xs, x ∈ ys) → xs.length ≤ ys.length
  | [], _, _, _ => Nat.zero_le _
  | x :: xs, ys, h, hs => by
    obtain ⟨h1, h2⟩ := List.nodup_cons.mp h
    have hx := hs x List.mem_cons_self
    have ih := nodup_len_le (ys := ys.erase x) h2 fun z hz => (List.mem_erase_of_ne (fun e : z = x => h1 (e ▸ hz))).mpr (hs z (List.mem_cons_of_mem _ hz))
    rw [List.length_erase_of_mem hx] at ih
    have : 0 < ys.length := List.length_pos_of_mem hx
    rw [List.length_cons]
    omega
def tLenSetB (K : PySem.W.Frag) (ta : TE) : TE := fun σ H Q => ta σ H fun x H1 => ∃ (l : Addr) (ns : List Int), x = .ref l ∧ (SqL K H1 l (ns.map V.int) ∨ SqT K H1 l (ns.map V.int)) ∧ ns.Nodup ∧ ns.length ≤ 4000 ∧ Q (.int (ns.length : Nat)) H1
theorem pe_lenSetB {X : Cx} {a : Expr} {ta : TE} {p p2 q pos : Pos} (hg : Gl X "len") (hm : X.mg "len" = none) (hg2 : Gl X "set") (hm2 : X.mg "set" = none) (ha : PE X a ta) (hc : X.calm = true := by rfl)
    (na : starEach [a] X.env = (false, eval a X.env) :: starEach [] X.env := by rfl) : PE X (.Call (.Name "len" p) [.Call (.Name "set" p2) [a] [] q] [] pos) (tLenSetB X.K ta) := by
  constructor
  intro pins s σ H Q I h
  apply Call_ (ld_blt I hg hm boot_len _)
  apply PyProof.Rows.callWith_builtin1 (PyProof.Rows.args_cons _ rfl) rfl rfl
  apply Call_ (ld_blt I hg2 hm2 boot_set _)
  apply PyProof.Rows.callWith_type1 (PyProof.Rows.args_cons (thn (ha.run pins s σ H _ I h) _) na) na rfl
  rintro v s1 ⟨x, H1, I1, r1, l, ns, rfl, hq, hnd, hl, q1⟩
  apply PyProof.Rows.args_nil
  cases r1
  rcases hq with hq | hq
  · obtain ⟨its, r, pl, _⟩ := I1.list hq
    have hn : its.toArray.size = ns.length := by rw [List.size_toArray, ← r.length, List.length_map]
    apply call_set_list (I1.ok.hd hc) pl.isList (by simpa using RZ.intsAre_vals r) (by rw [hn]; unfold scanBound; omega)
    intro h' tk hS hk
    apply PyProof.Rows.args_nil
    rw [hn, RZ.firstMet_nodup hnd ns.length (Nat.le_refl _), List.take_length] at hS
    obtain ⟨o, es, ep, t, ho, hex, hd, _, _, _, hf, hm⟩ := hS
    have I2 : Inv X pins σ H1 { s1 with heap := h', toks := tk } := I1.kept fun b o e => hk b o (Heap.lt_size e) e
    exact call_len_set ho hex hd hf (by rw [hm] <;> omega) ⟨.int ns.length, H1, I2.tok _, ⟨_, by rw [hm]⟩, q1⟩
  · obtain ⟨its, r, tp, _⟩ := I1.tuple hq
    apply call_set_tupI ns (I1.ok.hd hc) tp (by simpa using RZ.intsAre_vals r) (by unfold scanBound; omega)
    intro h' tk c hS _ hk
    apply PyProof.Rows.args_nil
    obtain ⟨o, es, ep, t, ho, hex, hd, _, knd, kmem, _, hf, hn, _⟩ := hS
    have e : c = ns.length := by
      have m : ∀ k, k ∈ es.toList.map keyOf ↔ k ∈ ns := fun k => by rw [← kmem k]; simp
      have a1 := nodup_len_le knd fun k hk => (m k).mp hk
      have a2 := nodup_len_le hnd fun k hk => (m k).mpr hk
      have z : (es.toList.map keyOf).length = es.size := by rw [List.length_map]; rfl
      rw [z] at a1 a2
      omega
    subst e
    have I2 : Inv X pins σ H1 { s1 with heap := h', toks := tk } := I1.kept hk
    exact call_len_set ho hex hd hf (by rw [hn] <;> omega) ⟨.int ns.length, H1, I2.tok _, ⟨_, by rw [hn]⟩, q1⟩
def lenSetI (ds : List D) : Tree D := withO (intsD ds) fun ns => if (nodupB ns && decide (ns.length ≤ 4000)) = true then leaf (.int ns.length) else fail
def fLenSet2 : D → Tree D
  | .lst ds => lenSetI ds
  | .tup ds => lenSetI ds
  | _ => fail
theorem lenSetI_all {ds : List D} {P : D → Prop} (h : (lenSetI ds).all P) : ∃ ns, intsD ds = some ns ∧ ns.Nodup ∧ ns.length ≤ 4000 ∧ P (.int ns.length) := by
  unfold lenSetI withO at h
  split at h
  · rename_i ns hn
    have h : (if (nodupB ns && decide (ns.length ≤ 4000)) = true then leaf (D.int ns.length) else fail).all P := h
    split at h
    · rename_i hk
      rw [Bool.and_eq_true, decide_eq_true_eq] at hk
      exact ⟨ns, hn, nodup_of hk.1, hk.2, h⟩
    · exact h.elim
  · exact h.elim
theorem se_lenset2 {X : Cx} {e : Expr} {m : En → Tree D} {p p2 q pos : Pos} (hg : Gl X "len") (hm : X.mg "len" = none) (hg2 : Gl X "set") (hm2 : X.mg "set" = none) (ha : SP X e m) (hc : X.calm = true := by rfl) (na : starEach [e] X.env = (false, eval e X.env) :: starEach [] X.env := by rfl) :
    SE X (.Call (.Name "len" p) [.Call (.Name "set" p2) [e] [] q] [] pos) (m1 fLenSet2 m) := by
  refine ⟨PE.weak (pe_lenSetB hg hm hg2 hm2 ha.pe hc na) fun σ H Q ⟨B, F, E, g, rl, q⟩ => ?_⟩
  refine ⟨B, F, E, g, rl, Tree.all_mono (fun d k v F1 H1 e1 p1 => ?_) (Tree.all_bind.mp q)⟩
  cases d with
  | lst ds =>
    obtain ⟨ns, hn, h1, h2, h3⟩ := lenSetI_all k
    obtain ⟨a, xs, rfl, hh, r1⟩ := p1.lst e1.good
    have := ints_of hn r1
    subst this
    exact ⟨a, ns, rfl, .inl (.of hh), h1, h2, h3 _ F1 H1 e1 (.int _)⟩
  | tup ds =>
    obtain ⟨ns, hn, h1, h2, h3⟩ := lenSetI_all k
    obtain ⟨a, xs, rfl, hh, r1⟩ := p1.tup e1.good
    have := ints_of hn r1
    subst this
    exact ⟨a, ns, rfl, .inr hh, h1, h2, h3 _ F1 H1 e1 (.int _)⟩
  | _ => exact False.elim k
end R

set_option Elab.async false
set_option linter.all false
set_option maxRecDepth 100000
/-! more words: {} (an empty dict that stays so), t[::-1] of a tuple -/
namespace HT
open PySem PySem.Spec PyProof.Rows
section
variable {prog : Program} {w : World} {A : Around} {E : Value → Shared → Prop} {s : Shared}
theorem adjust_back (n : Nat) : Builtin.Slice.sliceAdjust none none (-1) (n : Int) = ((n : Int) - 1, -1) := by
  unfold Builtin.Slice.sliceAdjust
  simp
theorem places_back (n : Nat) : Builtin.Slice.slicePlaces ((n : Int) - 1) (-1) (-1) = n := by
  unfold Builtin.Slice.slicePlaces
  simp only [show ¬ ((-1 : Int) > 0) by omega, if_false, show (-(-1 : Int)) = 1 by decide, Int.ediv_one]
  split <;> omega
theorem sliceApplied_back {sl : Addr} {vl vu vs : Value} {n : Nat} {Q : Int × Int × Nat → Shared → Prop} (hs : s.heap.IsSliceOf sl vl vu vs) (pl : IsPart vl none) (pu : IsPart vu none) (ps : IsPart vs (some (-1)))
    (h : Q ((n : Int) - 1, -1, n) s) : wpAny (model prog w) A (Builtin.Slice.sliceApplied (.ref sl) (pure (n : Int))) Q E s := by
  obtain ⟨os, hos, hcs, hds⟩ := id hs
  unfold Builtin.Slice.sliceApplied Builtin.Slice.sliceFields
  refine wpAny_bind (wpAny_bind (wpAny_field hos hds (x := vl) rfl (wpAny_bind (wpAny_field hos hds (x := vu) rfl (wpAny_bind (wpAny_field hos hds (x := vs) rfl (wpAny_pure ?_)))))))
  refine wpAny_bind (slicePart_ ps ?_)
  show wpAny _ _ (if ((-1 : Int) == 0) = true then _ else _) _ _ s
  rw [if_neg (by decide)]
  refine wpAny_bind (slicePart_ pl (wpAny_bind (slicePart_ pu (wpAny_bind (wpAny_pure ?_)))))
  show wpAny _ _ (match Builtin.Slice.sliceAdjust none none (-1) (n : Int) with | (lo, hi) => pure (lo, (-1 : Int), Builtin.Slice.slicePlaces lo hi (-1))) _ _ s
  rw [adjust_back n]
  show wpAny _ _ (pure ((n : Int) - 1, (-1 : Int), Builtin.Slice.slicePlaces ((n : Int) - 1) (-1) (-1))) _ _ s
  rw [places_back]
  exact wpAny_pure h
theorem filterMap_some {α β : Type} (f : α → Option β) (g : α → β) : ∀ L : List α, (∀ x ∈ L, f x = some (g x)) → L.filterMap f = L.map g
  | [], _ => rfl
  | x :: L, h => by
    rw [List.filterMap_cons, h x List.mem_cons_self, List.map_cons, filterMap_some f g L fun y hy => h y (List.mem_cons_of_mem _ hy)]
theorem pick_back (xs : Array Value) : ((List.range xs.size).filterMap fun (m : Nat) => xs[(((xs.size : Nat) : Int) - 1 + (m : Int) * (-1)).toNat]?).toArray = xs.toList.reverse.toArray := by
  congr 1
  rw [filterMap_some _ (fun m => xs.toList.reverse.getD m .none) _ (fun m hm => ?_)]
  · refine List.ext_getElem (by simp) fun i h1 h2 => ?_
    rw [List.getElem_map, List.getElem_range]
    rw [List.getD_eq_getElem?_getD, List.getElem?_eq_getElem h2]
    rfl
  · have hm := List.mem_range.mp hm
    have e : (((xs.size : Nat) : Int) - 1 + (m : Int) * (-1)).toNat = xs.size - 1 - m := by omega
    rw [e]
    rw [List.getD_eq_getElem?_getD, List.getElem?_reverse (by simpa using hm)]
    simp only [Array.length_toList]
    rw [Array.getElem?_toList]
    have h3 : xs.size - 1 - m < xs.size := by omega
    rw [Array.getElem?_eq_getElem h3]
    rfl
theorem getItem_tuple_back {t sl : Addr} {items : Array Value} {vl vu vs : Value} {Q : Value → Shared → Prop} (ht : IsTup s.heap t items) (hs : s.heap.IsSliceOf sl vl vu vs) (pl : IsPart vl none) (pu : IsPart vu none) (ps : IsPart vs (some (-1)))
    (h : Q (.ref s.heap.objs.size) { s with heap := s.heap.push { cls := .type "tuple", data := .seq items.toList.reverse.toArray } })
    (hsz : items.size ≤ sizeLine) : wpAny (model prog w) A (getItem (.ref t) (.ref sl)) Q E s := by
  have htake : sizeOk (.seq items.toList.reverse.toArray) := by
    show items.toList.reverse.toArray.size ≤ sizeLine
    rw [List.size_toArray, List.length_reverse, Array.length_toList]
    exact hsz
  obtain ⟨os, hos, hcs, hds⟩ := id hs
  have hTs : s.TypeIs (.ref sl) "slice" := ⟨os, hos, hcs⟩
  unfold getItem
  try with_reducible refine wpAny_holding ?_
  first | refine wpAny_bind (wpAny_pure ?_) | skip
  refine wpAny_bind (wpAny_sequenceKey ht.typeIs (by decide) ?_)
  refine wpAny_bind (wpAny_callSpecial?_slot (name := Str.ofString "__getitem__") ht.typeIs PyProof.Rows.slot_tuple_getitem
    (wpAny_call_entry PyProof.Rows.slot_tuple_getitem ht.typeIs entry_tuple_getitem ?_ (args_tuple_getitem _ _)))
  show wpAny _ _ (Builtin.Tuple.tupleItemsOf (.ref t) >>= _) _ _ s
  refine wpAny_bind (tupleItemsOf_ ht ?_)
  refine wpAny_bind (wpAny_typeOf hTs ?_)
  rw [if_pos (by decide)]
  refine wpAny_bind (sliceApplied_back hs pl pu ps ?_)
  have hno : ¬ (((((items.size : Nat) : Int) - 1) == 0 && (-1 : Int) == 1 && items.size == items.size) = true) := by
    intro q
    rw [Bool.and_eq_true, Bool.and_eq_true] at q
    exact absurd q.1.2 (by decide)
  show wpAny _ _ (if ((((items.size : Nat) : Int) - 1) == 0 && (-1 : Int) == 1 && items.size == items.size) = true then _ else _) _ _ s
  rw [if_neg hno, pick_back]
  first
    | exact wpAny_bind (m := Builtin.Tuple.tupleExact _) (wpAny_newObj_type (wpAny_pure ⟨_, rfl, wpAny_pure h⟩) htake)
    | exact wpAny_bind (m := Builtin.Tuple.tupleExact _) (wpAny_newObj_type (wpAny_bind (wpAny_pure (wpAny_pure ⟨_, rfl, wpAny_pure h⟩))) htake)
    | exact wpAny_bind (wpAny_bind (m := Builtin.Tuple.tupleExact _) (wpAny_newObj_type (wpAny_pure (wpAny_pure ⟨_, rfl, wpAny_pure h⟩)) htake))
    | exact wpAny_bind (wpAny_bind (m := Builtin.Tuple.tupleExact _) (wpAny_newObj_type (wpAny_pure ⟨_, rfl, wpAny_pure h⟩) htake))
end
end HT
namespace R
open PySem PySem.Spec PyProof.Rows L2
open Tree (leaf fail)
section
variable {X : Cx} {e : Expr} {m : En → Tree D} {pos : Pos}
/-- xs[::-1], a list or a tuple: the value as it stands, new -/
def tRevA (K : PySem.W.Frag) (te : TE) : TE := fun σ H Q => te σ H fun x H1 => ∃ a xs, x = .ref a ∧ ((SqL K H1 a xs ∧ ∀ p, H1 p = none → Q (.ref p) (upd H1 p (.lst xs.reverse))) ∨ (SqT K H1 a xs ∧ ∀ p, H1 p = none → Q (.ref p) (upd H1 p (.tup xs.reverse))))
theorem pe_revA {e : Expr} {te : TE} {k : Nat} {p1 p2 p3 pos : Pos} (he : PE X e te) : PE X (.Subscript e (.Slice none none (some (.UnaryOp .USub (.Constant (.int 1) k p1) p2)) p3) pos) (tRevA X.K te) := by
  refine ⟨fun pins s σ H Q I h => ?_⟩
  refine Subscript_ (thn (he.run pins s σ H _ I h) fun v s1 ⟨x, H1, I1, r1, q1⟩ => ?_)
  obtain ⟨a, xs, ex, q⟩ := q1
  subst ex
  cases r1
  have hst : PO X (some (.UnaryOp .USub (.Constant (.int 1) k p1) p2)) (tPart (tUn (rU fun i => .int (-i)) (tC (.int 1)))) := po_some (pe_un un_neg pe_int)
  refine wpAny_Slice (thn (po_none.run pins s1 σ H1 (fun o H2 => o = none ∧ H2 = H1) I1 ⟨rfl, rfl⟩) fun vl s2 ⟨l, H2, I2, pl, el, e2⟩ => ?_)
  subst el e2
  refine thn (po_none.run pins s2 σ H2 (fun o H3 => o = none ∧ H3 = H2) I2 ⟨rfl, rfl⟩) fun vu s3 ⟨u, H3, I3, pu, eu, e3⟩ => ?_
  subst eu e3
  refine thn (hst.run pins s3 σ H3 (fun o H4 => o = some (-1) ∧ H4 = H3) I3 ⟨1, rfl, -1, rfl, rfl, rfl⟩) fun vs s4 ⟨o, H4, I4, ps, eo, e4⟩ => ?_
  subst eo e4
  have I5 : Inv X pins σ H4 { s4 with heap := s4.heap.push { cls := .type "slice", data := .fields #[vl, vu, vs] } } := I4.kept (t' := s4.toks) fun b ob q => Heap.get?_push_of_some _ q
  show wpAny (model X.prog X.w) X.A (subscriptTail e (.Slice none none (some (.UnaryOp .USub (.Constant (.int 1) k p1) p2)) p3) (.ref a) (.ref s4.heap.objs.size)) (EP X pins σ Q) X.xe { s4 with heap := s4.heap.push { cls := .type "slice", data := .fields #[vl, vu, vs] } }
  rcases q with ⟨hx, q⟩ | ⟨hx, q⟩
  · obtain ⟨its, r, ht, hz⟩ := I5.list hx
    have hlen := r.length
    refine tail_any (ops := [.ref a, .ref s4.heap.objs.size]) ht.isList.typeIs (PySem.slot_list_getitem.lookup) ?_ (by with_unfolding_all rfl)
    refine wpAny_getItem_list_slice ht.isList (Heap.IsSliceOf.new _ vl vu vs) pl pu ps (by decide) ?_ (by rw [List.size_toArray]; omega)
    rw [PySem.W.krv_pick]
    refine ⟨.ref _, _, I5.laid (t' := s4.toks) (o := .lst xs.reverse) (fun b ob q => Heap.get?_push_of_some _ q) (Nat.le_refl _) ?_, rfl, q _ (I5.hok.fresh (Nat.le_refl _))⟩
    exact ⟨by rw [List.length_reverse]; exact hz, _, 0, r.reverse, Heap.get?_push_size _ rfl⟩
  · obtain ⟨its, r, ht, hz⟩ := I5.tuple hx
    have hlen := r.length
    refine tail_any (ops := [.ref a, .ref s4.heap.objs.size]) ht.typeIs (PyProof.Rows.slot_tuple_getitem.lookup) ?_ (by with_unfolding_all rfl)
    refine HT.getItem_tuple_back ht (Heap.IsSliceOf.new _ vl vu vs) pl pu ps ?_ (by rw [List.size_toArray]; omega)
    refine ⟨.ref _, _, I5.laid (t' := s4.toks) (o := .tup xs.reverse) (fun b ob q => Heap.get?_push_of_some _ q) (Nat.le_refl _) ?_, rfl, q _ (I5.hok.fresh (Nat.le_refl _))⟩
    exact ⟨by rw [List.length_reverse]; exact hz, _, r.reverse, IsTup.new _ _⟩
def mRevA (m : En → Tree D) : En → Tree D := fun E => (m E).bind fun d => match d with
  | .lst ds => leaf (.lst ds.reverse)
  | .tup ds => leaf (.tup ds.reverse)
  | _ => fail
theorem se_revA {k : Nat} {p1 p2 p3 : Pos} (h : SP X e m) : SE X (.Subscript e (.Slice none none (some (.UnaryOp .USub (.Constant (.int 1) k p1) p2)) p3) pos) (mRevA m) := by
  refine ⟨PE.weak (pe_revA h.pe) fun σ H Q ⟨B, F, E, g, rl, q⟩ => ?_⟩
  refine ⟨B, F, E, g, rl, Tree.all_mono (fun d k v F1 H1 e1 p1 => ?_) (Tree.all_bind.mp q)⟩
  cases d with
  | lst ds =>
    obtain ⟨a, xs, rfl, h1, r1⟩ := p1.lst e1.good
    refine ⟨a, xs, rfl, .inl ⟨.of h1, fun p hp => ?_⟩⟩
    exact k _ (F1.add p (.lst _)) _ (e1.trans (Ext.addNew e1.good hp)) (.lst upd_same ((reps_rev r1).mono (Fz.le_add (e1.good.free hp).1)))
  | tup ds =>
    obtain ⟨a, xs, rfl, h1, r1⟩ := p1.tup e1.good
    refine ⟨a, xs, rfl, .inr ⟨h1, fun p hp => ?_⟩⟩
    exact k _ (F1.add p (.tup _)) _ (e1.trans (Ext.addNew e1.good hp)) (.tup (.of upd_same) ((reps_rev r1).mono (Fz.le_add (e1.good.free hp).1)))
  | _ => exact False.elim k
/-- {} -/
theorem se_dct : SE X (.Dict [] [] pos) (fun _ => leaf .dct) := by
  refine ⟨PE.weak pe_dnewK fun σ H Q ⟨B, F, E, g, rl, q⟩ => fun p hp => ?_⟩
  exact q _ (F.add p (.dK [])) _ (Ext.addNew g hp) (.dct upd_same)
/-- xs + ys as a list of one's own -/
def opAddL : D → D → Tree (List D)
  | .lst xs, .lst ys => lineOk (xs.length + ys.length) (leaf (xs ++ ys))
  | _, _ => fail
def mAddL (ma mb : En → Tree D) : En → Tree (List D) := fun E => (ma E).bind fun d => (mb E).bind fun e => opAddL d e
theorem sl_add {a b : Expr} {ma mb : En → Tree D} (ha : SP X a ma) (hb : SP X b mb) : SL X (.BinOp a .Add b pos) (mAddL ma mb) := by
  refine ⟨PE.weak (pe_op op_cat ha.pe hb.pe) fun σ H Q ⟨B, F, E, g, rl, q⟩ => ?_⟩
  refine ⟨B, F, E, g, rl, Tree.all_mono (fun d k v F1 H1 e1 p1 => ?_) (Tree.all_bind.mp q)⟩
  refine ⟨B, F1, E, e1.good, rl.ext e1, Tree.all_mono (fun e k u F2 H2 e2 p2 => ?_) (Tree.all_bind.mp k)⟩
  have p1 := p1.ext e2
  unfold opAddL at k
  split at k
  · obtain ⟨hl, k⟩ := lineOk_all k
    obtain ⟨a, xs, rfl, h1, r1⟩ := p1.lst e2.good
    obtain ⟨b, ys, rfl, h2, r2⟩ := p2.lst e2.good
    refine ⟨a, b, xs, ys, rfl, rfl, h1, h2, by rw [r1.length, r2.length]; exact hl, fun p hp => ?_⟩
    have f := e2.good.free hp
    exact k p _ F2 _ ((e1.trans e2).trans (Ext.new e2.good hp)) upd_same f.1 f.2 (ext_none g (e1.trans e2) hp) (r1.append r2)
  · exact k.elim
end
end R

set_option Elab.async false
set_option linter.all false
set_option maxRecDepth 100000
set_option maxHeartbeats 2000000
/-! defs that may raise one exception of the program's own; x(lambda: f(..)), x a def that hears that exception -/
namespace R
open PySem PySem.Spec PyProof.Rows L2
open Tree (leaf fail)
/-! ### blocks that may raise C -/
def tSX (K : PySem.W.Frag) (W : WX) (C : Value) (m : En → Tree (Option Out)) : TS := fun D0 σ H => ∃ F0 H0 F E, Ext F0 H0 F H ∧ RelE K (B0 H0) F H σ E ∧ (m E).all fun o => match o with
  | some o => Post K F0 H0 F D0 o
  | none => ∀ σ' F' H', Ext F0 H0 F' H' → F.Le F' → W C none σ' H'
structure SSX (X : Cx) (W : WX) (C : Value) (ss : List Stmt) (m : En → Tree (Option Out)) : Prop where
  ps : PSs X ss (tSX X.K W C m)
section
variable {X : Cx} {W : WX} {C : Value} {st : Stmt} {rest : List Stmt} {m : En → Tree Out} {n : En → Tree (Option Out)} {pos : Pos}
def oLift (m : En → Tree Out) : En → Tree (Option Out) := fun E => (m E).bind fun o => leaf (some o)
theorem ssx_one (h : SS X st m) : SSX X W C [st] (oLift m) := ⟨PSs.weak (pss_one h.ps) fun D0 σ H ⟨F0, H0, F, E, e, r, q⟩ => ⟨F0, H0, F, E, e, r, Tree.all_mono (fun o k => k) (Tree.all_bind.mp q)⟩⟩
def oSeqX (m : En → Tree Out) (n : En → Tree (Option Out)) : En → Tree (Option Out) := fun E => (m E).bind fun o => match o with
  | .nx E' => n E'
  | o => leaf (some o)
theorem ssx_cons (h1 : SS X st m) (h2 : SSX X W C rest n) : SSX X W C (st :: rest) (oSeqX m n) := by
  refine ⟨PSs.weak (pss_cons h1.ps h2.ps) fun D0 σ H ⟨F0, H0, F, E, e, r, q⟩ => ?_⟩
  refine ⟨F0, H0, F, E, e, r, Tree.all_mono (fun o k => ?_) (Tree.all_bind.mp q)⟩
  cases o with
  | nx E' => exact fun σ' F' H' e' l r' => ⟨F0, H0, F', E', e', r', Tree.all_mono (fun o h => by
      cases o with
      | none => exact fun σ2 F2 H2 e2 l2 => h σ2 F2 H2 e2 (l.trans l2)
      | some o => exact Post.le l h) k⟩
  | rt d => exact k
  | bk E' => exact k
  | ct E' => exact k
/-- if c: raise C(), then the rest -/
def oRaiseIf (c : En → Tree Bool) (n : En → Tree (Option Out)) : En → Tree (Option Out) := fun E => (c E).bind fun b => if b = true then leaf none else n E
theorem ssx_raise {c e : Expr} {mc : En → Tree Bool} {rpos : Pos} (hcalm : X.calm = true) (tk : Takes X W) (hm : PMk X e fun _ H Q => Q C none H) (hc : ST X c mc) (h2 : SSX X W C rest n) :
    SSX X W C (.If c [.Raise (some e) none rpos] [] pos :: rest) (oRaiseIf mc n) := by
  refine ⟨PSs.weak (pss_cons (ps_if hc.pt (pss_one (ps_raise hcalm tk hm)) pss_nil) h2.ps) fun D0 σ H ⟨F0, H0, F, E, e, r, q⟩ => ?_⟩
  refine ⟨B0 H0, F, E, e.good, r, Tree.all_mono (fun b k F1 H1 e1 => ?_) (Tree.all_bind.mp q)⟩
  cases b with
  | true => exact (show (leaf (none : Option Out)).all _ from k) σ F1 H1 (e.trans e1) e1.le
  | false => exact ⟨F0, H0, F1, E, e.trans e1, r.ext e1, Tree.all_mono (fun o h => by
      cases o with
      | none => exact fun σ2 F2 H2 e2 l2 => h σ2 F2 H2 e2 (e1.le.trans l2)
      | some o => exact Post.le e1.le h) (show (n E).all _ from k)⟩
/-- X() of a class of the program's own over a built-in exception -/
theorem pmk_own0 {CA : Addr} {bmB : List Value} {B newId initId : String} {x : Str} {p : Pos} (F : ExcBaseFacts B newId initId bmB) (q : PySem.W.excIn X.K CA bmB newId = true) (gC : X.mg x = some (.ref CA)) (kC : PySem.W.keepIn X.K (.ref CA) = true) (r : Raises X (.ref CA)) (hg : Gl X x)
    (hdb : (x == ("__debug__" : Str)) = false := by decide) : PMk X (.Call (.Name x p) [] [] pos) (fun _ H Q => Q (.ref CA) none H) := by
  intro pins s σ H Q I h
  refine wpAny_Call_Name_kw (ld_glob I hg gC ?_ hdb)
  refine PySem.W.callWith_K0 I.kIn kC ?_
  show wpAny _ _ (call (.ref CA) []) _ _ _
  obtain ⟨bm, N, nm, qn, bs, hdct, sn, sub, ab, col, dd, k0, k1, k2, k3, k5, mN, hC, hN, hni, T⟩ := exc_obj I.kIn q
  refine wpAny_call_exc_subT F T hC hN hni (fun h' e hm => ?_) (Nat.zero_le _)
  exact mk_of I hm r h (I.hok.gone hm.new)
end
/-! ### a def's promise -/
def spX (K : PySem.W.Frag) (C : Value) (f : List D → Tree (Option D)) : Sp := fun vs H Q E => ∃ F ds, Good F H ∧ Reps K F vs ds ∧ (f ds).all fun o => match o with
  | some d => ∀ v F' H', Ext F H F' H' → Rep K F' v d → Q v H'
  | none => ∀ F' H', Ext F H F' H' → E C none H'
def mDefX (np n : Nat) (m : En → Tree (Option Out)) : List D → Tree (Option D) := fun ds => if ds.length = np then (m (En.start n ds)).bind fun o => match o with
  | none => leaf none
  | some (.nx _) => leaf (some .non)
  | some (.rt d) => leaf (some d)
  | _ => fail
  else fail
def noX (f : List D → Tree (Option D)) : List D → Tree D := fun ds => (f ds).bind fun o => match o with
  | some d => leaf d
  | none => fail
section
variable {P : Program} {w : World} {K : PySem.W.Frag} {mg : Str → Option Value} {base : Heap}
theorem def_okX {x qual : Str} {st : Stmt} {f : Addr} {fd : FuncData} {N ps : List Str} {k : Nat} {C : Value} {m : En → Tree (Option Out)} (np n : Nat) (F : Fun K x qual st f fd) (S : FnScope N ps (defScope st)) (hn : N.length = n) (hp : ps.length = np)
    (hbody : ∀ (cdv : Value) (A : Around) (outer : List Env) (s : Shared) (H : Hp) (E : XK), Room k (A.deeper (envOfC qual (defScope st) s.heap.objs.size f cdv)) →
      SSX (cxOf (L2.CX P w) P w K mg base N qual (defScope st) f cdv A outer s H E) (fun cls d _ H => E cls d H) C (defBody st) m) : FnOk P w K mg base (L2.CX P w) (k + 1) f fd ps (spX K C (mDefX np n m)) := by
  subst hn hp
  refine F.okX S (fun vs H Q E ⟨F, ds, g, r, q⟩ => ?_) (fun cdv A outer s H vs Q E hr h => ?_)
  · unfold mDefX at q
    split at q
    · rename_i h; rw [r.length]; exact h
    · exact q.elim
  · obtain ⟨F, ds, g, r, q⟩ := h
    refine ⟨_, (hbody cdv A outer s H E hr).ps, F, H, F, En.start N.length ds, Ext.refl g, rel_start r N, ?_⟩
    unfold mDefX at q
    split at q
    · refine Tree.all_mono (fun o k => ?_) (Tree.all_bind.mp q)
      cases o with
      | none => exact fun σ' F' H' e l => k F' H' e
      | some o =>
        cases o with
        | nx E => exact fun σ' F' H' e l r => k .non F' H' e .non
        | rt d => exact fun v F' H' e l r => k v F' H' e r
        | bk E => exact False.elim k
        | ct E => exact False.elim k
    · exact q.elim
/-- where it does not raise it is a def like others -/
theorem FnG.ofX {k : Nat} {f : Addr} {fd : FuncData} {ps : List Str} {C : Value} {fx : List D → Tree (Option D)} (F : FnOk P w K mg base (L2.CX P w) k f fd ps (spX K C fx)) : FnG P w K mg base k f fd ps (spF K (noX fx)) := by
  have cv : ∀ vs H Q E, spF K (noX fx) vs H Q E → spX K C fx vs H Q E0 := fun vs H Q E ⟨F, ds, g, r, q⟩ => ⟨F, ds, g, r, Tree.all_mono (fun o k => by
    cases o with
    | some d => exact k
    | none => exact False.elim k) (Tree.all_bind.mp q)⟩
  refine ⟨fun vs H Q E h => F.len _ _ _ _ (cv vs H Q E h), fun A over s H args us vs Q E _ hr e0 hb hv h => ?_⟩
  refine codeAny_mono (F.run A over s H args us vs Q E0 hr e0 hb hv (cv vs H Q E h)) fun r s' hq => ?_
  cases r with
  | error e =>
    obtain ⟨_, _, _, _, _, _, _, _, _, _, _, _, z⟩ := hq
    exact z.elim
  | ok fl => cases fl <;> exact hq
end
structure CalX (P : Program) (w : World) (K : PySem.W.Frag) (mg : Str → Option Value) (base : Heap) (k : Nat) (x : Str) (C : Value) (fn : List D → Tree (Option D)) : Prop where
  ex : ∃ (f : Addr) (fd : FuncData) (ps : List Str), FnOk P w K mg base (L2.CX P w) k f fd ps (spX K C fn) ∧ mg x = some (.ref f) ∧ PySem.W.keepIn K (.ref f) = true ∧ Binds K fd ps []
structure CalKX (P : Program) (w : World) (K : PySem.W.Frag) (mg : Str → Option Value) (base : Heap) (k : Nat) (x : Str) (C : Value) (fn : List D → Tree (Option D)) (ks : List Str) (is : List Nat) : Prop where
  ex : ∃ (f : Addr) (fd : FuncData) (ps : List Str), FnOk P w K mg base (L2.CX P w) k f fd ps (spX K C fn) ∧ mg x = some (.ref f) ∧ PySem.W.keepIn K (.ref f) = true ∧ KwBinds K fd ps ks is
end R

set_option Elab.async false
set_option linter.all false
set_option maxRecDepth 100000
set_option maxHeartbeats 2000000
/-! x(lambda: f(..)): x hears one exception -/
namespace R
open PySem PySem.Spec PyProof.Rows L2 LamX
open Tree (leaf fail)
/-- told = None / try: told = a() / except e: told = ret / return told -/
theorem heard_gives {X : Cx} {Ng : List Str} {x a e q ret told : Str} {sg : Scope} {g CS : Addr} {cdg : Value} {j j0 : Nat} {p1 p2 p3 p4 p5 p6 p7 p8 p9 p10 p11 p12 p13 p14 p15 : Pos} (nd : Ng.Nodup) (h2 : Ng.length = 2) (h1 : Ng[1]? = some told) (hl : Loc sg told) (hv : Vis sg told)
    (hge : sg.names.lookup e = some .globalImplicit) (hme : X.mg e = some (.ref CS)) (hde : (e == ("__debug__" : Str)) = false) (hdt : (told == ("__debug__" : Str)) = false) (hct : (told == ("__classdict__" : Str)) = false)
    (hlt : sg.names.lookup told = some .local) :
    GivesTo X Ng x sg g cdg [.Assign [.Name told p1] (.Constant .none j0 p2) p3, .Try [.Assign [.Name told p4] (.Call (.Name a p5) [] [] p6) p7] [.ExceptHandler (some (.Name e p8)) none [.Assign [.Name told p9] (.Constant (.str ret) j p10) p11] p12] [] [] p13, .Return (some (.Name told p14)) p15] a q (TTold X.K CS ret) := by
  intro f c' s H Q tl act hc h
  have hgl : Gl (cxOf C8.CX0 X.prog X.w X.K X.mg X.base Ng x sg g cdg X.A X.stack s H C8.E0).nox e := hge
  have st0 : (L2.start Ng [V.ref f])[0]? = some (some (V.ref f)) := by
    match Ng, h2 with
    | [u, v], _ => rfl
  have stl : (L2.start Ng [V.ref f]).length = 2 := by
    match Ng, h2 with
    | [u, v], _ => rfl
  refine ⟨_, pss_cons (ps_set (i := 1) nd h1 hl pe_non (hf := .inr hlt)) (pss_cons (ps_try_only (X := (cxOf C8.CX0 X.prog X.w X.K X.mg X.base Ng x sg g cdg X.A X.stack s H C8.E0).nox) (c := .ref CS)
      (tb := fun W D σ H => ∃ Ech : XK, (∀ cls d σ' H', Ech cls d H' → W cls d σ' H') ∧ σ[0]? = some (some (.ref f)) ∧ H c' = some (CodeO c' q) ∧ tl Ech H fun v H' => D.nx (σ.set 1 (some v)) H')
      (ts := fun _ _ _ D σ H => σ.length = 2 → D.nx (σ.set 1 (some (.str ret))) H)
      rfl rfl ⟨hgl, hde, .inl hme⟩ L2.takes0 (fun W pn xe tk _ => ?_) (fun ea oe cls d pn _ _ => ?_)) (pss_one (ps_ret (pe_var h1 hv hdt hct)))), ?_⟩
  · refine ⟨fun pins s' σ H' D I h' => ?_⟩
    obtain ⟨Ech, hW, k1, k2, k3⟩ := h'
    have hp := act W pn xe Ech p5 p6 tk hW
    have hq := pss_one (ps_set (i := 1) (pos := p7) (pos' := p4) nd h1 hl hp (hf := .inr hlt))
    exact hq.run pins s' σ H' D I ⟨k1, k2, k3⟩
  · refine ⟨fun pins s' σ H' D I h' => ?_⟩
    have hq : PSs ((cxOf C8.CX0 X.prog X.w X.K X.mg X.base Ng x sg g cdg X.A X.stack s H C8.E0).nox.suite ea ((ea, oe) :: pn)) [.Assign [.Name told p9] (.Constant (.str ret) j p10) p11] (tAsg (tC (.str ret)) (gName 1)) := pss_one (ps_set nd h1 hl pe_str (hf := .inr hlt))
    exact hq.run pins s' σ H' D I (h' (I.len.trans h2))
  · refine ⟨fun cls _ H' => ∃ b, PySem.W.exmOne X.K cls (.ref CS) = some b ∧ (b = true → Q (.str ret) H') ∧ (b = false → False), fun cls d σ' H' ⟨b, e1, e2, e3⟩ => ⟨b, e1, fun hb a _ hl => ⟨_, List.getElem?_set_self (by rw [hl]; decide), e2 hb⟩, fun hb => e3 hb⟩, ?_, hc, ?_⟩
    · rw [List.getElem?_set_ne (by decide)]; exact st0
    · have e1 : ∀ (σ : L2.St) (hσ : σ.length = 2), (fun (v : V) (H' : Hp) => ∃ v', (σ.set 1 (some v))[1]? = some (some v') ∧ Q v' H') = Q := fun σ hσ => funext fun v => funext fun H' => propext ⟨fun ⟨v', e, q⟩ => by
        rw [List.getElem?_set_self (by rw [hσ]; decide)] at e
        cases e
        exact q, fun q => ⟨v, List.getElem?_set_self (by rw [hσ]; decide), q⟩⟩
      show tl _ H (fun (v : V) (H' : Hp) => ∃ v', (((L2.start Ng [V.ref f]).set 1 (some .non)).set 1 (some v))[1]? = some (some v') ∧ Q v' H')
      rw [e1 _ (by rw [List.length_set]; exact stl)]
      exact h
def mHeard (ret : Str) (fx : List D → Tree (Option D)) (ma : En → Tree (List D)) : En → Tree D := fun E => (ma E).bind fun ds => (fx ds).bind fun o => match o with
  | some d => leaf d
  | none => leaf (.str ret)
section
variable {X : Cx} {k : Nat} {x a q ret : Str} {st : Stmt} {Ng : List Str} {CS c P : Addr} {params : Arguments} {body : Expr} {scope : Scope} {lpos p pos : Pos} {fx : List D → Tree (Option D)} {ma : En → Tree (List D)}
/-- tables grow: all else stays -/
theorem ext_tabs {F : Fz} {H H1 : Hp} (g : Good F H) (e : ExtN H H1) (t : Tabs TB H1) : Ext F H F H1 :=
  ⟨⟨fun a o h => e a o (g.sub a o h) fun ps z => g.nt a ps (z ▸ h), fun a ta => by
      obtain ⟨n, x, y, h, r⟩ := g.pot a ta
      exact ⟨n, x, y, e a _ h (fun ps z => by cases z), r⟩, g.nt, t⟩, Same.refl _, fun _ h => h, fun a o h _ nt => e a o h nt, fun _ h => h.elim .inl fun z => .inr (.inl z)⟩
/-- x(lambda: body), body a call that may raise CS -/
theorem se_heard (aH : At X.K X.mg x st) (Sg : FnScope Ng [a] (defScope st)) (hNg : Ng[0]? = some a) (hva : Vis (defScope st) a)
    (hbi : ∀ (kV doc pm : Value) (an : Option Addr) (cdv ct : Value) (us : List Value), us.length = 1 → bindArgs (PySem.W.fnOf x x (defArgs st) (defBody st) (defScope st) .none kV doc pm an cdv ct) ⟨us, []⟩ = pure ([a].zip us))
    (hG : ∀ (g : Addr) (cdg : Value), GivesTo X Ng x (defScope st) g cdg (defBody st) a (X.env.qual ++ "<lambda>") (TTold X.K CS ret)) (tb : TabB X.base X.mg c P) (hcode : X.env.code = .ref c) (hmT : (P, X.env.qual ++ "<lambda>") ∈ TB)
    (hu : ∀ p ∈ TB, p.1 = P → p.2 = X.env.qual ++ "<lambda>") (hr : Room (k + 2) X.A) (hgl : Gl X x) (eC : PySem.W.exmOne X.K (.ref CS) (.ref CS) = some true) (L : LamS X.env.scope scope)
    (hbody : ∀ (A : Around) (outer : List Env) (s : Shared) (H : Hp) (E : XK) (f c' : Addr), Room k (A.deeper (lamEnv X scope s.heap.objs.size f c')) → PE (lamCx X A outer s H E scope f c') body (tCallS (spX X.K (.ref CS) fx) (fun _ => E) (tA X.K ma)))
    (hdef : defaultsOf params X.env = ([], []) := by rfl)
    (hbind : ∀ (q : Str) (cl : List (Str × Addr)) (pm cv ctv : Value), bindArgs (PySem.W.kla_fn "<lambda>" q params body scope cl pm cv ctv) ⟨[], []⟩ = pure [] := by intros; rfl)
    (hdb : (x == ("__debug__" : Str)) = false := by decide) (hd : (a == ("__debug__" : Str)) = false := by decide) (hcd : (a == ("__classdict__" : Str)) = false := by decide) :
    SE X (.Call (.Name x p) [.Lambda params body scope lpos] [] pos) (mHeard ret fx ma) := by
  obtain ⟨g, fd, Fg, hm⟩ := aH.ex
  have Fg0 := Fg
  obtain ⟨oc, od, kV, doc, pm, an, cdv, ct, osl, e, lk, hcd'⟩ := Fg.ex
  subst e
  refine ⟨PE.weak (pe_lamcall (T := TB) (TT := TTold X.K CS ret) hgl hm Fg0.kp lk hcd' (Fg0.binds hbi) Sg hNg hva (hG g cdv) tb hcode hmT hu hr L hdef hbind (t := fun E => tCallS (spX X.K (.ref CS) fx) (fun _ => E) (tA X.K ma)) hbody hdb hd hcd) fun σ H Q ⟨B, F, E, gd, rl, q⟩ => ⟨gd.tab, fun H1 eN T1 => ?_⟩⟩
  have e1 := ext_tabs gd eN T1
  refine ⟨B, F, E, e1.good, rl.ext e1, Tree.all_mono (fun ds k vs F2 H2 e2 p2 => ?_) (Tree.all_bind.mp q)⟩
  refine ⟨F2, ds, e2.good, p2, Tree.all_mono (fun o ko => ?_) (Tree.all_bind.mp k)⟩
  cases o with
  | some d => exact fun v F3 H3 e3 rv => (show ∀ v F' H', Ext F H F' H' → Rep X.K F' v d → Q v H' from ko) v F3 H3 ((e1.trans e2).trans e3) rv
  | none => exact fun F3 H3 e3 => ⟨true, eC, fun _ => (show ∀ v F' H', Ext F H F' H' → Rep X.K F' v (.str ret) → Q v H' from ko) _ F3 H3 ((e1.trans e2).trans e3) (.str ret), fun z => by cases z⟩
/-- the lambda's body: a call by place -/
theorem lam_call {j : Nat} {f : Str} {e : Expr} {es : List Expr} {cpos pf : Pos} (cx : CalX X.prog X.w X.K X.mg X.base j f (.ref CS) fx) (hj : j ≤ k) (hgf : scope.names.lookup f = some .globalImplicit)
    (ha : ∀ (A : Around) (outer : List Env) (s : Shared) (H : Hp) (E : XK) (fa c' : Addr), SA (lamCx X A outer s H E scope fa c') (e :: es) ma)
    (hdb : (f == ("__debug__" : Str)) = false := by decide) (he : ∀ env, starEach (e :: es) env = (false, eval e env) :: starEach es env := by intro; rfl) (hpl : ∀ env, (backTo cpos (starEach es env)).any (·.1) = false := by intro; rfl) :
    ∀ (A : Around) (outer : List Env) (s : Shared) (H : Hp) (E : XK) (fa c' : Addr), Room k (A.deeper (lamEnv X scope s.heap.objs.size fa c')) → PE (lamCx X A outer s H E scope fa c') (.Call (.Name f pf) (e :: es) [] cpos) (tCallS (spX X.K (.ref CS) fx) (fun _ => E) (tA X.K ma)) := by
  intro A outer s H E fa c' hr
  obtain ⟨g, fd, ps, F, hm, kp, b⟩ := cx.ex
  have tk : Takes (lamCx X A outer s H E scope fa c') (fun cls d _ H => E cls d H) := takes_of rfl rfl rfl rfl
  exact pe_callS (X := lamCx X A outer s H E scope fa c') (E := fun _ => E) F (hr.mono hj) hgf hm kp b (fun σ => L2.passAt tk σ) (ha A outer s H E fa c').pa hdb (he _) (hpl _)
/-- the lambda's body: a call by names -/
theorem lam_callK {j : Nat} {f : Str} {kws : List Keyword} {ks : List Str} {is : List Nat} {cpos pf : Pos} (cx : CalKX X.prog X.w X.K X.mg X.base j f (.ref CS) fx ks is) (hj : j ≤ k) (hgf : scope.names.lookup f = some .globalImplicit)
    (ha : ∀ (A : Around) (outer : List Env) (s : Shared) (H : Hp) (E : XK) (fa c' : Addr), SK_ (lamCx X A outer s H E scope fa c') kws ma)
    (hall : ∀ env, (backToKw cpos (keywordEach kws env)).all (·.1.isSome) = true := by intro; rfl) (hks : ∀ env, (backToKw cpos (keywordEach kws env)).filterMap (·.1) = ks := by intro; rfl) (hdb : (f == ("__debug__" : Str)) = false := by decide)
    (hpl : ∀ env, ((backTo cpos (starEach [] env)).any (·.1) || (backToKw cpos (keywordEach kws env)).any (·.1.isNone)) = false := by intro; rfl) :
    ∀ (A : Around) (outer : List Env) (s : Shared) (H : Hp) (E : XK) (fa c' : Addr), Room k (A.deeper (lamEnv X scope s.heap.objs.size fa c')) → PE (lamCx X A outer s H E scope fa c') (.Call (.Name f pf) [] kws cpos) (tCallS (spX X.K (.ref CS) fun ds => fx (permD is ds)) (fun _ => E) (tA X.K ma)) := by
  intro A outer s0 H0 E fa c' hr
  obtain ⟨g, fd, ps, F, hm, kp, b⟩ := cx.ex
  have tk : Takes (lamCx X A outer s0 H0 E scope fa c') (fun cls d _ H => E cls d H) := takes_of rfl rfl rfl rfl
  refine ⟨fun pins s σ H Q I h => ?_⟩
  refine wpAny_Call_Name_kw (ld_glob I hgf hm ?_ hdb)
  refine PySem.W.callWith_KW0 (h₀ := X.base) I.ok.mod.kin kp (hall _) (thn ((ha A outer s0 H0 E fa c').pk.run cpos pins s σ H _ I h) fun ws s2 ⟨zs, H2, I2, rz, q2⟩ => ⟨I2.kIn, ?_⟩) (hpl _)
  obtain ⟨F', ds, gd, r, q⟩ := q2
  have q3 : spX X.K (.ref CS) fx (is.filterMap fun i => zs[i]?) H2 Q E := ⟨F', permD is ds, gd, perm_rep r is, q⟩
  rw [hks _]
  have r2 := perm_vals rz is
  have hl := r2.length.symm.trans (F.len _ _ _ _ q3)
  refine wpAny_call (codeAny_mono ((F.mono hj).run (lamCx X A outer s0 H0 E scope fa c').A (lamCx X A outer s0 H0 E scope fa c').stack s2 H2 _ _ _ Q E hr I2.env0 (b.to s2 ws I2.kIn hl) r2 q3) fun r s' hq => ?_)
  cases r with
  | error e => exact L2.passAt tk σ pins H2 s2 e s' I2 hq
  | ok fl =>
    cases fl with
    | ret u => exact I2.after hq
    | next => exact False.elim hq
    | brk => exact False.elim hq
    | cont => exact False.elim hq
end
/-! ### an exception class of the program's own, over a built-in one -/
structure ExcF (K : PySem.W.Frag) (mg : Str → Option Value) (x : Str) (CS : Addr) (B nid iid : String) (bm : List Value) : Prop where
  base : ExcBaseFacts B nid iid bm
  inn : PySem.W.excIn K CS bm nid = true
  gC : mg x = some (.ref CS)
  kC : PySem.W.keepIn K (.ref CS) = true
  sub : PySem.W.subIn K (.ref CS) (.type "BaseException") = some true
  typ : PySem.W.typeIn K (.ref CS) = some (.type "type")
  ext : PySem.W.exmOne K (.ref CS) (.ref CS) = some true
theorem exc_of {K : PySem.W.Frag} {mg : Str → Option Value} {x : Str} {h : Heap} {CS : Addr} {B nid iid : String} {bm : List Value} (X : K.In h) (G : h.Ns mainGlobals mg) (b : ExcBaseFacts B nid iid bm) (a : PySem.W.nsIn K mainGlobals x = some (some (.ref CS))) (i : PySem.W.excIn K CS bm nid = true) (k : PySem.W.keepIn K (.ref CS) = true)
    (s : PySem.W.subIn K (.ref CS) (.type "BaseException") = some true) (t : PySem.W.typeIn K (.ref CS) = some (.type "type")) (e : PySem.W.exmOne K (.ref CS) (.ref CS) = some true) : ExcF K mg x CS B nid iid bm := ⟨b, i, PySem.W.mg_of X G a, k, s, t, e⟩
section
variable {P : Program} {w : World} {K : PySem.W.Frag} {mg : Str → Option Value} {base : Heap}
theorem calx_mk {x : Str} {st : Stmt} {C : Value} {fn : List D → Tree (Option D)} {k : Nat} {ps : List Str} (a : At K mg x st) (c : ∀ f fd, Fun K x x st f fd → FnOk P w K mg base (L2.CX P w) k f fd ps (spX K C fn))
    (hb : ∀ (kV doc pm : Value) (an : Option Addr) (cdv ct : Value) (us : List Value), us.length = ps.length → bindArgs (PySem.W.fnOf x x (defArgs st) (defBody st) (defScope st) .none kV doc pm an cdv ct) ⟨us, []⟩ = pure (ps.zip us)) : CalX P w K mg base k x C fn := by
  obtain ⟨f, fd, F, hm⟩ := a.ex
  exact ⟨f, fd, ps, c f fd F, hm, F.kp, F.binds hb⟩
theorem kwx_of {x : Str} {st : Stmt} {C : Value} {fn : List D → Tree (Option D)} {k : Nat} {ps ks : List Str} {is : List Nat} (a : At K mg x st) (c : ∀ f fd, Fun K x x st f fd → FnOk P w K mg base (L2.CX P w) k f fd ps (spX K C fn))
    (hb : ∀ (kV doc pm : Value) (an : Option Addr) (cdv ct : Value) (ws : List Value), (is.filterMap fun i => ws[i]?).length = ps.length → bindArgs (PySem.W.fnOf x x (defArgs st) (defBody st) (defScope st) .none kV doc pm an cdv ct) ⟨[], ks.zip ws⟩ = pure (ps.zip (is.filterMap fun i => ws[i]?))) :
    CalKX P w K mg base k x C fn ks is := by
  obtain ⟨f, fd, F, hm⟩ := a.ex
  have F0 := F
  obtain ⟨oc, od, kV, doc, pm, an, cdv, ct, osl, e, lk, hcd⟩ := F.ex
  refine ⟨f, fd, ps, c f fd F0, hm, F.kp, ⟨fun s ws _ hl => ?_⟩⟩
  rw [e]
  exact .of_eq (hb kV doc pm an cdv ct ws hl)
/-- a def whose code object is known -/
theorem calG_mkC {x : Str} {st : Stmt} {fn : List D → Tree D} {k : Nat} {ps : List Str} (a : At K mg x st) (c : ∀ f fd, Fun K x x st f fd → mg x = some (.ref f) → FnG P w K mg base k f fd ps (spF K fn))
    (hb : ∀ (kV doc pm : Value) (an : Option Addr) (cdv ct : Value) (us : List Value), us.length = ps.length → bindArgs (PySem.W.fnOf x x (defArgs st) (defBody st) (defScope st) .none kV doc pm an cdv ct) ⟨us, []⟩ = pure (ps.zip us)) : CalG P w K mg base k x fn := by
  obtain ⟨f, fd, F, hm⟩ := a.ex
  exact ⟨f, fd, ps, c f fd F hm, hm, F.kp, F.binds hb⟩
theorem code_of {x : Str} {st : Stmt} {f c P : Addr} {fd : FuncData} (KB : K.In base) (GB : base.Ns mainGlobals mg) (ht : PySem.W.tabIn K x = some (c, P)) (F : Fun K x x st f fd) (hm : mg x = some (.ref f)) : fd.code = .ref c := by
  obtain ⟨oc, od, kV, doc, pm, an, cdv, ct, osl, rfl, lk, _⟩ := F.ex
  exact PySem.W.law_code KB GB ht hm (KB _ _ lk) rfl
end
end R

set_option Elab.async false
set_option linter.all false
set_option maxRecDepth 100000
set_option maxHeartbeats 2000000
/-! defs as values -/
namespace R
open PySem PySem.Spec PyProof.Rows L2
open Tree (leaf fail)
/-- where the defs that are values stand -/
def Fns (mg : Str → Option Value) : Prop := ∀ n, n < FNS.length → mg (FNS.getD n (0, "")).2 = some (.ref (FNS.getD n (0, "")).1)
theorem fns_get {n : Nat} (h : n < FNS.length) : FNS[n]? = some ((FNS.getD n (0, "")).1, (FNS.getD n (0, "")).2) := by
  rw [List.getD_eq_getElem?_getD, List.getElem?_eq_getElem h]; rfl
theorem fns_of {n : Nat} {a : Addr} {x : Str} (h : FNS[n]? = some (a, x)) : n < FNS.length ∧ FNS.getD n (0, "") = (a, x) := by
  have hl : n < FNS.length := by
    rcases Nat.lt_or_ge n FNS.length with q | q
    · exact q
    · rw [List.getElem?_eq_none q] at h; cases h
  refine ⟨hl, ?_⟩
  rw [List.getD_eq_getElem?_getD, h]; rfl
theorem con_fn {K : PySem.W.Frag} {mg : Str → Option Value} (fns : Fns mg) (n : Nat) (h : n < FNS.length) : ConR K mg (FNS.getD n (0, "")).2 (.fn n) :=
  ⟨.ref _, .ref _, fns n h, rfl, fun _ => .fn (fns_get h)⟩
def mCallV (i : Nat) (disp : List (List D → Tree D)) (ma : En → Tree (List D)) : En → Tree D := fun E => match E[i]? with
  | some (some ⟨false, .fn n⟩) => mA (disp.getD n fun _ => fail) ma E
  | _ => fail
section
variable {X : Cx} {k i : Nat} {y : Str} {disp : List (List D → Tree D)} {p pos : Pos} {e : Expr} {es : List Expr} {ma : En → Tree (List D)}
theorem se_callV (hy : PE X (.Name y p) (tVar i)) (fns : Fns X.mg) (hc : ∀ n, n < FNS.length → ∃ j, j ≤ k ∧ CalG X.prog X.w X.K X.mg X.base j (FNS.getD n (0, "")).2 (disp.getD n fun _ => fail)) (hG : Gd X.A) (hr : Room k X.A)
    (ha : SA X (e :: es) ma)
    (he : starEach (e :: es) X.env = (false, eval e X.env) :: starEach es X.env := by rfl) (hpl : (backTo pos (starEach es X.env)).any (·.1) = false := by rfl) :
    SE X (.Call (.Name y p) (e :: es) [] pos) (mCallV i disp ma) := by
  refine ⟨PE.weak (t := fun σ H Q => ∃ n a x, FNS[n]? = some (a, x) ∧ σ[i]? = some (some (.ref a)) ∧ tA X.K ma σ H fun vs H1 => spF X.K (disp.getD n fun _ => fail) vs H1 Q E0) ⟨fun pins s σ H Q I h => ?_⟩ fun σ H Q ⟨B, F, E, g, rl, q⟩ => ?_⟩
  · obtain ⟨n, a, x, hn, hs, h⟩ := h
    obtain ⟨hl0, hq0⟩ := fns_of hn
    obtain ⟨j, hj, c⟩ := hc n hl0
    have hm0 := fns n hl0
    rw [hq0] at hm0 c
    obtain ⟨f, fd, ps, F, hm, kp, b⟩ := c.ex
    obtain rfl : a = f := by
      have := hm0.symm.trans hm
      cases this; rfl
    refine wpAny_Call_Name_kw (thn (hy.run pins s σ H (fun v H1 => v = .ref a ∧ H1 = H) I ⟨.ref a, hs, rfl, rfl⟩) fun u s1 ⟨v, H1, I1, r1, q1⟩ => ?_)
    obtain ⟨ev, eH⟩ := q1
    subst ev
    rw [eH] at I1
    obtain rfl : u = Value.ref a := r1
    refine PySem.W.callWith_K (h₀ := X.base) I1.ok.mod.kin kp (thn (ha.pa.run pos pins s1 σ H _ I1 h) fun us s2 ⟨vs, H2, I2, r, q⟩ => ⟨I2.kIn, ?_⟩) he hpl
    have hl := r.length.symm.trans (F.many _ _ _ _ q)
    have bd := b s2 us I2.kIn (by rw [List.append_nil]; exact hl)
    rw [List.append_nil] at bd
    refine wpAny_call (codeAny_mono (goG F hG (hr.mono hj) I2 bd r q) fun r s' hq => ?_)
    cases r with
    | error e => exact False.elim hq
    | ok fl =>
      cases fl with
      | ret u => exact hq
      | next => exact False.elim hq
      | brk => exact False.elim hq
      | cont => exact False.elim hq
  · unfold mCallV at q
    split at q
    · rename_i n e
      obtain ⟨v, h1, h2⟩ := rl.val i _ e
      cases h2 with
      | @fn a _ x hx =>
        exact ⟨n, a, x, hx, h1, B, F, E, g, rl, Tree.all_mono (fun ds k vs F1 H1 e1 p1 => ⟨F1, ds, e1.good, p1, Tree.all_mono (fun z kz w F2 H2 e2 rz => kz w F2 H2 (e1.trans e2) rz) k⟩) (Tree.all_bind.mp q)⟩
    · exact q.elim
end
section
variable {P : Program} {w : World} {K : PySem.W.Frag} {mg : Str → Option Value} {base : Heap}
/-- the recursion's ground: never reached -/
theorem calG_fail {x : Str} {st : Stmt} {k : Nat} {ps : List Str} (a : At K mg x st)
    (hb : ∀ (kV doc pm : Value) (an : Option Addr) (cdv ct : Value) (us : List Value), us.length = ps.length → bindArgs (PySem.W.fnOf x x (defArgs st) (defBody st) (defScope st) .none kV doc pm an cdv ct) ⟨us, []⟩ = pure (ps.zip us)) : CalG P w K mg base k x (fun _ => fail) := by
  obtain ⟨f, fd, F, hm⟩ := a.ex
  refine ⟨f, fd, ps, ⟨fun vs H Q E h => ?_, fun A over s H args us vs Q E hG hr e0 bd r h => ?_⟩, hm, F.kp, F.binds hb⟩
  · obtain ⟨_, _, _, _, q⟩ := h
    exact q.elim
  · obtain ⟨_, _, _, _, q⟩ := h
    exact q.elim
end
end R

set_option Elab.async false
set_option linter.all false
set_option maxRecDepth 100000
set_option maxHeartbeats 4000000
namespace R
open PySem PySem.Spec PyProof.Rows L2
def mRepL (ma mb : En → Tree D) : En → Tree (List D) := fun E => (ma E).bind fun d => (mb E).bind fun e => opRepL d e
def mListOf (m : En → Tree D) : En → Tree (List D) := fun E => (m E).bind fList
def mListRg (m m2 : En → Tree D) : En → Tree (List D) := fun E => (m E).bind fun d => (m2 E).bind fun d2 => match d, d2 with
  | .int i, .int j => if (rgOk i && rgOk j) = true then .leaf (rangeD i j) else .fail
  | _, _ => .fail
def mListR1 (m : En → Tree D) : En → Tree (List D) := fun E => (m E).bind fun d => match d with
  | .int j => if (rgOk 0 && rgOk j) = true then .leaf (rangeD 0 j) else .fail
  | _ => .fail
end R
namespace Law
open PySem PySem.Spec PyProof.Rows L2 R LamX
def FUEL : Nat := 2 ^ 9000
def topS (i : Nat) : Stmt := PySem.Challenge.rw_chancepairs_k90_any_value_as_look_garbli.prog.main.body.getD i (.Pass ⟨0, 0, 0, 0⟩)
structure Nb (mg : Str → Option Value) : Prop where
  b_abs : mg "abs" = none
  b_all : mg "all" = none
  b_bool : mg "bool" = none
  b_divmod : mg "divmod" = none
  b_enumerate : mg "enumerate" = none
  b_int : mg "int" = none
  b_isinstance : mg "isinstance" = none
  b_len : mg "len" = none
  b_list : mg "list" = none
  b_max : mg "max" = none
  b_min : mg "min" = none
  b_range : mg "range" = none
  b_repr : mg "repr" = none
  b_sum : mg "sum" = none
  b_tuple : mg "tuple" = none
  b_zip : mg "zip" = none
/-! ### _law_draw, level 1 -/
abbrev s_law_draw : Stmt := topS 49
abbrev N_law_draw : List Str := ["pot", "many", "digit"]
theorem sc_law_draw : FnScope N_law_draw ["pot", "many"] (defScope s_law_draw) := ⟨rfl, rfl, rfl, by decide +kernel, rfl, by decide +kernel, by decide +kernel⟩
def f_law_draw : List D → Tree D := fDraw
/-! ### _law_frac, level 1 -/
abbrev s_law_frac : Stmt := topS 51
abbrev N_law_frac : List Str := ["top", "bottom", "one", "late"]
theorem sc_law_frac : FnScope N_law_frac ["top", "bottom"] (defScope s_law_frac) := ⟨rfl, rfl, rfl, by decide +kernel, rfl, by decide +kernel, by decide +kernel⟩
def b_law_frac : En → Tree Out := (oSeq (oIf (mC cLt (mPeek 1) (fun _ => .leaf (.int 0)))
  (oPar 0 1 (aCons (m2 opSub (fun _ => .leaf (.int 0)) (mPeek 0)) (aCons (m2 opSub (fun _ => .leaf (.int 0)) (mPeek 1)) aNil)))
  oNx)
  (oSeq (oPar 2 3 (aCons (mA fAbs (aCons (mPeek 0) aNil)) (aCons (mVar 1) aNil)))
  (oSeq (oWhile (mC cGt (mPeek 3) (fun _ => .leaf (.int 0)))
  (oPar 2 3 (aCons (mVar 3) (aCons (m2 opMod (mA fInt (aCons (mPeek 2) aNil)) (mPeek 3)) aNil))) FUEL)
  (oRet (mTup (aCons (m2 opDiv (mPeek 0) (mPeek 2)) (aCons (m2 opDiv (mPeek 1) (mPeek 2)) aNil)))))))
def f_law_frac : List D → Tree D := mDef 2 4 b_law_frac
/-! ### _law_lot, level 2 -/
abbrev s_law_lot : Stmt := topS 57
abbrev N_law_lot : List Str := ["pot", "many", "tops", "at", "place", "top"]
theorem sc_law_lot : FnScope N_law_lot ["pot", "many"] (defScope s_law_lot) := ⟨rfl, rfl, rfl, by decide +kernel, rfl, by decide +kernel, by decide +kernel⟩
def b_law_lot : En → Tree Out := (oSeq (oOwn 2 (mLc (mRange1 (mPeek 1)) [4] (gPut 4) tYesM (mIf (mC cGt (mA f_law_draw (aCons (mVar 0) (aCons (fun _ => .leaf (.int 3)) aNil))) (fun _ => .leaf (.int 0))) (mA f_law_draw (aCons (mVar 0) (aCons (fun _ => .leaf (.int 5)) aNil))) (fun _ => .leaf (.int 0)))))
  (oSeq (oSet 3 (mA f_law_draw (aCons (mVar 0) (aCons (mVar 1) aNil))))
  (oSeq (oStore 2 (mPeek 3) (m2 opAdd (m2 opAdd (m2 opIx (mPeek 2) (mPeek 3)) (fun _ => .leaf (.int 1))) (mA f_law_draw (aCons (mVar 0) (aCons (fun _ => .leaf (.int 3)) aNil)))))
  (oRet (mA fTuple (aCons (mList (mLc (mSeq (mPeek 2)) [5] (gPut 5) tYesM (mA f_law_frac (aCons (mVar 5) (aCons (mA fSum (aCons (mPeek 2) aNil)) aNil))))) aNil))))))
def f_law_lot : List D → Tree D := mDef 2 6 b_law_lot
/-! ### _law_look, level 3 -/
abbrev s_law_look : Stmt := topS 58
abbrev N_law_look : List Str := ["pot", "states", "signs", "state"]
theorem sc_law_look : FnScope N_law_look ["pot", "states", "signs"] (defScope s_law_look) := ⟨rfl, rfl, rfl, by decide +kernel, rfl, by decide +kernel, by decide +kernel⟩
def b_law_look : En → Tree Out := (oRet (mList (mLc (mRange1 (mPeek 1)) [3] (gPut 3) tYesM (mA f_law_lot (aCons (mVar 0) (aCons (mVar 2) aNil))))))
def f_law_look : List D → Tree D := mDef 3 4 b_law_look
/-! ### _law_acts, level 2 -/
abbrev s_law_acts : Stmt := topS 63
abbrev N_law_acts : List Str := ["pot", "states", "act", "state"]
theorem sc_law_acts : FnScope N_law_acts ["pot", "states"] (defScope s_law_acts) := ⟨rfl, rfl, rfl, by decide +kernel, rfl, by decide +kernel, by decide +kernel⟩
def b_law_acts : En → Tree Out := (oRet (mList (mLc (mRange1 (m2 opAdd (fun _ => .leaf (.int 1)) (mA f_law_draw (aCons (mVar 0) (aCons (fun _ => .leaf (.int 4)) aNil))))) [2] (gPut 2) tYesM (mList (mLc (mRange1 (mPeek 1)) [3] (gPut 3) tYesM (mA f_law_frac (aCons (m2 opSub (mA f_law_draw (aCons (mVar 0) (aCons (fun _ => .leaf (.int 9)) aNil))) (fun _ => .leaf (.int 4))) (aCons (m2 opAdd (fun _ => .leaf (.int 1)) (mA f_law_draw (aCons (mVar 0) (aCons (fun _ => .leaf (.int 3)) aNil)))) aNil))))))))
def f_law_acts : List D → Tree D := mDef 2 4 b_law_acts
/-! ### _law_pick, level 2 -/
abbrev s_law_pick : Stmt := topS 50
abbrev N_law_pick : List Str := ["pot", "some"]
theorem sc_law_pick : FnScope N_law_pick ["pot", "some"] (defScope s_law_pick) := ⟨rfl, rfl, rfl, by decide +kernel, rfl, by decide +kernel, by decide +kernel⟩
def b_law_pick : En → Tree Out := (oRet (m2 opIx (mPeek 1) (mA f_law_draw (aCons (mVar 0) (aCons (mA fLen (aCons (mPeek 1) aNil)) aNil)))))
def f_law_pick : List D → Tree D := mDef 2 2 b_law_pick
/-! ### _law_bent, level 8 -/
abbrev s_law_bent : Stmt := topS 72
abbrev N_law_bent : List Str := ["pot", "value", "at", "way", "one"]
theorem sc_law_bent : FnScope N_law_bent ["pot", "value"] (defScope s_law_bent) := ⟨rfl, rfl, rfl, by decide +kernel, rfl, by decide +kernel, by decide +kernel⟩
def b_law_bent (f_law_bent : List D → Tree D) : En → Tree Out := (oSeq (oIf (mOr (mNot (mT (mA fIsi (aCons (mPeek 1) (aCons (mTup (aCons (fun _ => .leaf (.ty "list")) (aCons (fun _ => .leaf (.ty "tuple")) aNil))) aNil))))) (mOr (mC cEq (mA fLen (aCons (mPeek 1) aNil)) (fun _ => .leaf (.int 0))) (mC cEq (mA f_law_draw (aCons (mVar 0) (aCons (fun _ => .leaf (.int 7)) aNil))) (fun _ => .leaf (.int 0)))))
  (oRet (mA f_law_pick (aCons (mVar 0) (aCons (mList (mLst (aCons (fun _ => .leaf .non) (aCons (fun _ => .leaf (.int 0)) (aCons (fun _ => .leaf (.int 1)) (aCons (m1 opNeg (fun _ => .leaf (.int 1))) (aCons (fun _ => .leaf (.bl true)) (aCons (fun _ => .leaf (.str "1")) (aCons (mTup (aCons (fun _ => .leaf (.int 1)) (aCons (fun _ => .leaf (.int 2)) aNil))) (aCons (mTup (aCons (fun _ => .leaf (.int 0)) (aCons (fun _ => .leaf (.int 1)) aNil))) (aCons (mTup (aCons (fun _ => .leaf (.int 2)) (aCons (fun _ => .leaf (.int 4)) aNil))) (aCons (mTup (aCons (fun _ => .leaf (.int 1)) (aCons (fun _ => .leaf (.int 0)) aNil))) (aCons (mList (mLst aNil)) (aCons (mTup aNil) (aCons (mTup (aCons (fun _ => .leaf (.int 3)) (aCons (fun _ => .leaf (.int 2)) aNil))) (aCons (mTup (aCons (m1 opNeg (fun _ => .leaf (.int 1))) (aCons (fun _ => .leaf (.int 2)) aNil))) aNil)))))))))))))))) aNil))))
  oNx)
  (oSeq (oPar 2 3 (aCons (mA f_law_draw (aCons (mVar 0) (aCons (mA fLen (aCons (mPeek 1) aNil)) aNil))) (aCons (mA f_law_draw (aCons (mVar 0) (aCons (fun _ => .leaf (.int 8)) aNil))) aNil)))
  (oSeq (oIf (mC cEq (mPeek 3) (fun _ => .leaf (.int 0)))
  (oRet (m2 opAdd (mCut (mPeek 1) (fun _ => .leaf none) (mPart (mPeek 2))) (mCut (mPeek 1) (mPart (m2 opAdd (mPeek 2) (fun _ => .leaf (.int 1)))) (fun _ => .leaf none))))
  oNx)
  (oSeq (oIf (mC cEq (mPeek 3) (fun _ => .leaf (.int 1)))
  (oRet (m2 opAdd (mPeek 1) (mCut (mPeek 1) (mPart (mPeek 2)) (mPart (m2 opAdd (mPeek 2) (fun _ => .leaf (.int 1)))))))
  oNx)
  (oSeq (oIf (mC cEq (mPeek 3) (fun _ => .leaf (.int 2)))
  (oRet (mRevA (mPeek 1)))
  oNx)
  (oSeq (oSet 4 (mA f_law_bent (aCons (mVar 0) (aCons (m2 opIx (mPeek 1) (mPeek 2)) aNil))))
  (oRet (m2 opAdd (m2 opAdd (mCut (mPeek 1) (fun _ => .leaf none) (mPart (mPeek 2))) (mIf (mT (mA fIsi (aCons (mPeek 1) (aCons (fun _ => .leaf (.ty "list")) aNil)))) (mList (mLst (aCons (mVar 4) aNil))) (mTup (aCons (mVar 4) aNil)))) (mCut (mPeek 1) (mPart (m2 opAdd (mPeek 2) (fun _ => .leaf (.int 1)))) (fun _ => .leaf none))))))))))
def f_law_bent_0 : List D → Tree D := fun _ => .fail
def f_law_bent_1 : List D → Tree D := mDef 2 5 (b_law_bent f_law_bent_0)
def f_law_bent_2 : List D → Tree D := mDef 2 5 (b_law_bent f_law_bent_1)
def f_law_bent_3 : List D → Tree D := mDef 2 5 (b_law_bent f_law_bent_2)
def f_law_bent_4 : List D → Tree D := mDef 2 5 (b_law_bent f_law_bent_3)
def f_law_bent : List D → Tree D := mDef 2 5 (b_law_bent f_law_bent_4)
/-! ### _law_is_list, level 1 -/
abbrev s_law_is_list : Stmt := topS 66
abbrev N_law_is_list : List Str := ["value"]
theorem sc_law_is_list : FnScope N_law_is_list ["value"] (defScope s_law_is_list) := ⟨rfl, rfl, rfl, by decide +kernel, rfl, by decide +kernel, by decide +kernel⟩
def b_law_is_list : En → Tree Out := (oRet (mA fIsi (aCons (mPeek 0) (aCons (mTup (aCons (fun _ => .leaf (.ty "list")) (aCons (fun _ => .leaf (.ty "tuple")) aNil))) aNil))))
def f_law_is_list : List D → Tree D := mDef 1 1 b_law_is_list
/-! ### _law_is_fraction, level 2 -/
abbrev s_law_is_fraction : Stmt := topS 64
abbrev N_law_is_fraction : List Str := ["value", "one"]
theorem sc_law_is_fraction : FnScope N_law_is_fraction ["value"] (defScope s_law_is_fraction) := ⟨rfl, rfl, rfl, by decide +kernel, rfl, by decide +kernel, by decide +kernel⟩
def b_law_is_fraction : En → Tree Out := (oSeq (oIf (mOr (mNot (mT (mA fIsi (aCons (mPeek 0) (aCons (fun _ => .leaf (.ty "tuple")) aNil))))) (mOr (mC cNe (mA fLen (aCons (mPeek 0) aNil)) (fun _ => .leaf (.int 2))) (mNot (mT (mA fAll (aCons (mList (mLc (mSeq (mPeek 0)) [1] (gPut 1) tYesM (mAndV (mA fIsi (aCons (mPeek 1) (aCons (fun _ => .leaf (.ty "int")) aNil))) (mNotV (mA fIsi (aCons (mPeek 1) (aCons (fun _ => .leaf (.ty "bool")) aNil))))))) aNil))))))
  (oRet (fun _ => .leaf (.bl false)))
  oNx)
  (oRet (mAndV (mB (mC cGt (m2 opIx (mPeek 0) (fun _ => .leaf (.int 1))) (fun _ => .leaf (.int 0)))) (mB (mC cEq (mA f_law_frac (aCons (m2 opIx (mPeek 0) (fun _ => .leaf (.int 0))) (aCons (m2 opIx (mPeek 0) (fun _ => .leaf (.int 1))) aNil))) (mPeek 0))))))
def f_law_is_fraction : List D → Tree D := mDef 1 2 b_law_is_fraction
/-! ### _law_plus, level 2 -/
abbrev s_law_plus : Stmt := topS 52
abbrev N_law_plus : List Str := ["one", "late"]
theorem sc_law_plus : FnScope N_law_plus ["one", "late"] (defScope s_law_plus) := ⟨rfl, rfl, rfl, by decide +kernel, rfl, by decide +kernel, by decide +kernel⟩
def b_law_plus : En → Tree Out := (oRet (mA f_law_frac (aCons (m2 opAdd (m2 opMul (m2 opIx (mPeek 0) (fun _ => .leaf (.int 0))) (m2 opIx (mPeek 1) (fun _ => .leaf (.int 1)))) (m2 opMul (m2 opIx (mPeek 1) (fun _ => .leaf (.int 0))) (m2 opIx (mPeek 0) (fun _ => .leaf (.int 1))))) (aCons (m2 opMul (m2 opIx (mPeek 0) (fun _ => .leaf (.int 1))) (m2 opIx (mPeek 1) (fun _ => .leaf (.int 1)))) aNil))))
def f_law_plus : List D → Tree D := mDef 2 2 b_law_plus
/-! ### _law_sum, level 3 -/
abbrev s_law_sum : Stmt := topS 55
abbrev N_law_sum : List Str := ["some", "found", "one"]
theorem sc_law_sum : FnScope N_law_sum ["some"] (defScope s_law_sum) := ⟨rfl, rfl, rfl, by decide +kernel, rfl, by decide +kernel, by decide +kernel⟩
def b_law_sum : En → Tree Out := (oSeq (oSet 1 (mTup (aCons (fun _ => .leaf (.int 0)) (aCons (fun _ => .leaf (.int 1)) aNil))))
  (oSeq (oFor (mSeq (mVar 0)) (gPut 2)
  (oSet 1 (mA f_law_plus (aCons (mVar 1) (aCons (mVar 2) aNil)))))
  (oRet (mVar 1))))
def f_law_sum : List D → Tree D := mDef 1 3 b_law_sum
/-! ### _law_is_lot, level 4 -/
abbrev s_law_is_lot : Stmt := topS 65
abbrev N_law_is_lot : List Str := ["value", "most", "one"]
theorem sc_law_is_lot : FnScope N_law_is_lot ["value", "most"] (defScope s_law_is_lot) := ⟨rfl, rfl, rfl, by decide +kernel, rfl, by decide +kernel, by decide +kernel⟩
def b_law_is_lot : En → Tree Out := (oSeq (oIf (mOr (mNot (mT (mA fIsi (aCons (mPeek 0) (aCons (fun _ => .leaf (.ty "tuple")) aNil))))) (mOr (mNot (mCh cLe cLe (fun _ => .leaf (.int 1)) (mA fLen (aCons (mPeek 0) aNil)) (mPeek 1))) (mNot (mT (mA fAll (aCons (mList (mLc (mSeq (mPeek 0)) [2] (gPut 2) tYesM (mAndV (mA f_law_is_fraction (aCons (mVar 2) aNil)) (mB (mC cGe (m2 opIx (mPeek 2) (fun _ => .leaf (.int 0))) (fun _ => .leaf (.int 0))))))) aNil))))))
  (oRet (fun _ => .leaf (.bl false)))
  oNx)
  (oRet (mB (mC cEq (mA f_law_sum (aCons (mVar 0) aNil)) (mTup (aCons (fun _ => .leaf (.int 1)) (aCons (fun _ => .leaf (.int 1)) aNil)))))))
def f_law_is_lot : List D → Tree D := mDef 2 3 b_law_is_lot
/-! ### _law_is_look, level 5 -/
abbrev s_law_is_look : Stmt := topS 67
abbrev N_law_is_look : List Str := ["value", "lot"]
theorem sc_law_is_look : FnScope N_law_is_look ["value"] (defScope s_law_is_look) := ⟨rfl, rfl, rfl, by decide +kernel, rfl, by decide +kernel, by decide +kernel⟩
def b_law_is_look : En → Tree Out := (oSeq (oIf (mOr (mNot (mT (mA f_law_is_list (aCons (mVar 0) aNil)))) (mOr (mNot (mCh cLe cLe (fun _ => .leaf (.int 1)) (mA fLen (aCons (mPeek 0) aNil)) (fun _ => .leaf (.int 6)))) (mNot (mT (mA fAll (aCons (mList (mLc (mSeq (mPeek 0)) [1] (gPut 1) tYesM (mA f_law_is_lot (aCons (mVar 1) (aCons (fun _ => .leaf (.int 8)) aNil))))) aNil))))))
  (oRet (fun _ => .leaf (.bl false)))
  oNx)
  (oRet (mA fAll (aCons (mList (mLc (mSeq (mPeek 0)) [1] (gPut 1) tYesM (mB (mC cEq (mA fLen (aCons (mPeek 1) aNil)) (mA fLen (aCons (m2 opIx (mPeek 0) (fun _ => .leaf (.int 0))) aNil)))))) aNil))))
def f_law_is_look : List D → Tree D := mDef 1 2 b_law_is_look
/-! ### is_list, level 1 -/
abbrev s_is_list : Stmt := topS 8
abbrev N_is_list : List Str := ["value"]
theorem sc_is_list : FnScope N_is_list ["value"] (defScope s_is_list) := ⟨rfl, rfl, rfl, by decide +kernel, rfl, by decide +kernel, by decide +kernel⟩
def b_is_list : En → Tree Out := (oRet (mA fIsi (aCons (mPeek 0) (aCons (mTup (aCons (fun _ => .leaf (.ty "list")) (aCons (fun _ => .leaf (.ty "tuple")) aNil))) aNil))))
def f_is_list : List D → Tree D := mDef 1 1 b_is_list
/-! ### is_integer, level 1 -/
abbrev s_is_integer : Stmt := topS 7
abbrev N_is_integer : List Str := ["value"]
theorem sc_is_integer : FnScope N_is_integer ["value"] (defScope s_is_integer) := ⟨rfl, rfl, rfl, by decide +kernel, rfl, by decide +kernel, by decide +kernel⟩
def b_is_integer : En → Tree Out := (oRet (mAndV (mA fIsi (aCons (mPeek 0) (aCons (fun _ => .leaf (.ty "int")) aNil))) (mNotV (mA fIsi (aCons (mPeek 0) (aCons (fun _ => .leaf (.ty "bool")) aNil))))))
def f_is_integer : List D → Tree D := mDef 1 1 b_is_integer
/-! ### divisor, level 1 -/
abbrev s_divisor : Stmt := topS 9
abbrev N_divisor : List Str := ["one", "late"]
theorem sc_divisor : FnScope N_divisor ["one", "late"] (defScope s_divisor) := ⟨rfl, rfl, rfl, by decide +kernel, rfl, by decide +kernel, by decide +kernel⟩
def b_divisor : En → Tree Out := (oSeq (oWhile (mC cGt (mPeek 1) (fun _ => .leaf (.int 0)))
  (oPar 0 1 (aCons (mVar 1) (aCons (m2 opMod (mA fInt (aCons (mPeek 0) aNil)) (mPeek 1)) aNil))) FUEL)
  (oRet (mVar 0)))
def f_divisor : List D → Tree D := mDef 2 2 b_divisor
/-! ### is_fraction_of, level 2 -/
abbrev s_is_fraction_of : Stmt := topS 10
abbrev N_is_fraction_of : List Str := ["value"]
theorem sc_is_fraction_of : FnScope N_is_fraction_of ["value"] (defScope s_is_fraction_of) := ⟨rfl, rfl, rfl, by decide +kernel, rfl, by decide +kernel, by decide +kernel⟩
def b_is_fraction_of : En → Tree Out := (oSeq (oIf (mOr (mNot (mT (mA fIsi (aCons (mPeek 0) (aCons (fun _ => .leaf (.ty "tuple")) aNil))))) (mOr (mC cNe (mA fLen (aCons (mPeek 0) aNil)) (fun _ => .leaf (.int 2))) (mOr (mNot (mT (mA f_is_integer (aCons (m2 opIx (mPeek 0) (fun _ => .leaf (.int 0))) aNil)))) (mNot (mT (mA f_is_integer (aCons (m2 opIx (mPeek 0) (fun _ => .leaf (.int 1))) aNil)))))))
  (oRet (fun _ => .leaf (.bl false)))
  oNx)
  (oRet (mAndV (mB (mC cGe (m2 opIx (mPeek 0) (fun _ => .leaf (.int 1))) (fun _ => .leaf (.int 1)))) (mB (mC cEq (mA f_divisor (aCons (mA fAbs (aCons (m2 opIx (mPeek 0) (fun _ => .leaf (.int 0))) aNil)) (aCons (m2 opIx (mPeek 0) (fun _ => .leaf (.int 1))) aNil))) (fun _ => .leaf (.int 1)))))))
def f_is_fraction_of : List D → Tree D := mDef 1 1 b_is_fraction_of
/-! ### reduced, level 2 -/
abbrev s_reduced : Stmt := topS 15
abbrev N_reduced : List Str := ["top", "bottom", "common"]
theorem sc_reduced : FnScope N_reduced ["top", "bottom"] (defScope s_reduced) := ⟨rfl, rfl, rfl, by decide +kernel, rfl, by decide +kernel, by decide +kernel⟩
def b_reduced : En → Tree Out := (oSeq (oIf (mC cLt (mPeek 1) (fun _ => .leaf (.int 0)))
  (oPar 0 1 (aCons (m2 opSub (fun _ => .leaf (.int 0)) (mPeek 0)) (aCons (m2 opSub (fun _ => .leaf (.int 0)) (mPeek 1)) aNil)))
  oNx)
  (oSeq (oSet 2 (mA f_divisor (aCons (mA fAbs (aCons (mPeek 0) aNil)) (aCons (mVar 1) aNil))))
  (oRet (mTup (aCons (m2 opDiv (mPeek 0) (mPeek 2)) (aCons (m2 opDiv (mPeek 1) (mPeek 2)) aNil))))))
def f_reduced : List D → Tree D := mDef 2 3 b_reduced
/-! ### add, level 3 -/
abbrev s_add : Stmt := topS 16
abbrev N_add : List Str := ["one", "late"]
theorem sc_add : FnScope N_add ["one", "late"] (defScope s_add) := ⟨rfl, rfl, rfl, by decide +kernel, rfl, by decide +kernel, by decide +kernel⟩
def b_add : En → Tree Out := (oRet (mA f_reduced (aCons (m2 opAdd (m2 opMul (m2 opIx (mPeek 0) (fun _ => .leaf (.int 0))) (m2 opIx (mPeek 1) (fun _ => .leaf (.int 1)))) (m2 opMul (m2 opIx (mPeek 1) (fun _ => .leaf (.int 0))) (m2 opIx (mPeek 0) (fun _ => .leaf (.int 1))))) (aCons (m2 opMul (m2 opIx (mPeek 0) (fun _ => .leaf (.int 1))) (m2 opIx (mPeek 1) (fun _ => .leaf (.int 1)))) aNil))))
def f_add : List D → Tree D := mDef 2 2 b_add
/-! ### total, level 4 -/
abbrev s_total : Stmt := topS 19
abbrev N_total : List Str := ["some", "found", "one"]
theorem sc_total : FnScope N_total ["some"] (defScope s_total) := ⟨rfl, rfl, rfl, by decide +kernel, rfl, by decide +kernel, by decide +kernel⟩
def b_total : En → Tree Out := (oSeq (oSet 1 (fun _ => .leaf (.tup [(.int 0), (.int 1)])))
  (oSeq (oFor (mSeq (mVar 0)) (gPut 2)
  (oSet 1 (mA f_add (aCons (mVar 1) (aCons (mVar 2) aNil)))))
  (oRet (mVar 1))))
def f_total : List D → Tree D := mDef 1 3 b_total
/-! ### is_lot_of, level 5 -/
abbrev s_is_lot_of : Stmt := topS 23
abbrev N_is_lot_of : List Str := ["value", "one"]
theorem sc_is_lot_of : FnScope N_is_lot_of ["value"] (defScope s_is_lot_of) := ⟨rfl, rfl, rfl, by decide +kernel, rfl, by decide +kernel, by decide +kernel⟩
def b_is_lot_of : En → Tree Out := (oSeq (oIf (mOr (mNot (mT (mA fIsi (aCons (mPeek 0) (aCons (fun _ => .leaf (.ty "tuple")) aNil))))) (mNot (mCh cLe cLe (fun _ => .leaf (.int 1)) (mA fLen (aCons (mPeek 0) aNil)) (fun _ => .leaf (.int 8)))))
  (oRet (fun _ => .leaf (.bl false)))
  oNx)
  (oSeq (oIf (mNot (mT (mA fAll (aCons (mList (mLc (mSeq (mPeek 0)) [1] (gPut 1) tYesM (mAndV (mA f_is_fraction_of (aCons (mVar 1) aNil)) (mB (mC cGe (m2 opIx (mPeek 1) (fun _ => .leaf (.int 0))) (fun _ => .leaf (.int 0))))))) aNil))))
  (oRet (fun _ => .leaf (.bl false)))
  oNx)
  (oRet (mB (mC cEq (mA f_total (aCons (mVar 0) aNil)) (fun _ => .leaf (.tup [(.int 1), (.int 1)])))))))
def f_is_lot_of : List D → Tree D := mDef 1 2 b_is_lot_of
/-! ### is_short, level 3 -/
abbrev s_is_short : Stmt := topS 11
abbrev N_is_short : List Str := ["value"]
theorem sc_is_short : FnScope N_is_short ["value"] (defScope s_is_short) := ⟨rfl, rfl, rfl, by decide +kernel, rfl, by decide +kernel, by decide +kernel⟩
def b_is_short : En → Tree Out := (oRet (mAndV (mA f_is_fraction_of (aCons (mVar 0) aNil)) (mAndV (mB (mC cLt (mA fAbs (aCons (m2 opIx (mPeek 0) (fun _ => .leaf (.int 0))) aNil)) (fun _ => .leaf (.int 1000000000000)))) (mB (mC cLt (m2 opIx (mPeek 0) (fun _ => .leaf (.int 1))) (fun _ => .leaf (.int 1000000000000)))))))
def f_is_short : List D → Tree D := mDef 1 1 b_is_short
/-! ### is_short_lot, level 6 -/
abbrev s_is_short_lot : Stmt := topS 24
abbrev N_is_short_lot : List Str := ["value", "one"]
theorem sc_is_short_lot : FnScope N_is_short_lot ["value"] (defScope s_is_short_lot) := ⟨rfl, rfl, rfl, by decide +kernel, rfl, by decide +kernel, by decide +kernel⟩
def b_is_short_lot : En → Tree Out := (oRet (mAndV (mA f_is_lot_of (aCons (mVar 0) aNil)) (mA fAll (aCons (mList (mLc (mSeq (mPeek 0)) [1] (gPut 1) tYesM (mA f_is_short (aCons (mVar 1) aNil)))) aNil))))
def f_is_short_lot : List D → Tree D := mDef 1 2 b_is_short_lot
/-! ### are_lots, level 7 -/
abbrev s_are_lots : Stmt := topS 28
abbrev N_are_lots : List Str := ["value", "is_own", "lot"]
theorem sc_are_lots : FnScope N_are_lots ["value", "is_own"] (defScope s_are_lots) := ⟨rfl, rfl, rfl, by decide +kernel, rfl, by decide +kernel, by decide +kernel⟩
def b_are_lots : En → Tree Out := (oSeq (oIf (mOr (mNot (mT (mA f_is_list (aCons (mVar 0) aNil)))) (mOr (mC cEq (mA fLen (aCons (mPeek 0) aNil)) (fun _ => .leaf (.int 0))) (mNot (mT (mA fAll (aCons (mList (mLc (mSeq (mPeek 0)) [2] (gPut 2) tYesM (mCallV 1 [f_is_fraction_of, f_is_lot_of, f_is_short_lot] (aCons (mVar 2) aNil)))) aNil))))))
  (oRet (fun _ => .leaf (.bl false)))
  oNx)
  (oRet (mA fAll (aCons (mList (mLc (mSeq (mPeek 0)) [2] (gPut 2) tYesM (mB (mC cEq (mA fLen (aCons (mPeek 2) aNil)) (mA fLen (aCons (m2 opIx (mPeek 0) (fun _ => .leaf (.int 0))) aNil)))))) aNil))))
def f_are_lots : List D → Tree D := mDef 2 3 b_are_lots
/-! ### is_look_of, level 8 -/
abbrev s_is_look_of : Stmt := topS 29
abbrev N_is_look_of : List Str := ["value"]
theorem sc_is_look_of : FnScope N_is_look_of ["value"] (defScope s_is_look_of) := ⟨rfl, rfl, rfl, by decide +kernel, rfl, by decide +kernel, by decide +kernel⟩
def b_is_look_of : En → Tree Out := (oRet (mAndV (mA f_are_lots (aCons (mVar 0) (aCons (fun _ => .leaf (.fn 1)) aNil))) (mB (mC cLe (mA fLen (aCons (mPeek 0) aNil)) (fun _ => .leaf (.int 6))))))
def f_is_look_of : List D → Tree D := mDef 1 1 b_is_look_of
/-! ### is_look, level 9 -/
abbrev s_is_look : Stmt := topS 35
abbrev N_is_look : List Str := ["value"]
theorem sc_is_look : FnScope N_is_look ["value"] (defScope s_is_look) := ⟨rfl, rfl, rfl, by decide +kernel, rfl, by decide +kernel, by decide +kernel⟩
def b_is_look : En → Tree Out := (oRet (mA f_is_look_of (aCons (mVar 0) aNil)))
def f_is_look : List D → Tree D := mDef 1 1 b_is_look
/-! ### _law_looks_right, level 10 -/
abbrev s_law_looks_right : Stmt := topS 73
abbrev N_law_looks_right : List Str := ["pot", "look", "value", "due", "shown", "turn"]
theorem sc_law_looks_right : FnScope N_law_looks_right ["pot", "look"] (defScope s_law_looks_right) := ⟨rfl, rfl, rfl, by decide +kernel, rfl, by decide +kernel, by decide +kernel⟩
def b_law_looks_right : En → Tree Out := (oSeq (oFor (mSeq (m2 opAdd (mList (mLst (aCons (mVar 1) (aCons (mA fTuple (aCons (mPeek 1) aNil)) (aCons (mList (mLst aNil)) (aCons (mList (mLst (aCons (mTup aNil) aNil))) (aCons (fun _ => .leaf .non) (aCons (m2 opMul (mList (mLst (aCons (m2 opIx (mPeek 1) (fun _ => .leaf (.int 0))) aNil))) (fun _ => .leaf (.int 6))) (aCons (m2 opMul (mList (mLst (aCons (m2 opIx (mPeek 1) (fun _ => .leaf (.int 0))) aNil))) (fun _ => .leaf (.int 7))) aNil))))))))) (mList (mLc (mRange1 (fun _ => .leaf (.int 16))) [5] (gPut 5) tYesM (mA f_law_bent (aCons (mVar 0) (aCons (mVar 1) aNil))))))) (gPut 2)
  (oSeq (oPar 3 4 (aCons (mA f_law_is_look (aCons (mVar 2) aNil)) (aCons (mA fRepr (aCons (mPeek 2) aNil)) aNil)))
  (oIf (mOr (mC cNe (mA fRepr (aCons (mList (mLst (aCons (mA f_is_look (aCons (mVar 2) aNil)) (aCons (mA (fun ds => f_is_look (permD [0] ds)) (aCons (mVar 2) aNil)) aNil)))) aNil)) (mA fRepr (aCons (mList (mLst (aCons (mVar 3) (aCons (mVar 3) aNil)))) aNil))) (mC cNe (mA fRepr (aCons (mPeek 2) aNil)) (mPeek 4)))
  (oRet (fun _ => .leaf (.bl false)))
  oNx)))
  (oRet (fun _ => .leaf (.bl true))))
def f_law_looks_right : List D → Tree D := mDef 2 6 b_law_looks_right
/-! ### _law_is_lot_like, level 5 -/
abbrev s_law_is_lot_like : Stmt := topS 69
abbrev N_law_is_lot_like : List Str := ["row", "many"]
theorem sc_law_is_lot_like : FnScope N_law_is_lot_like ["row", "many"] (defScope s_law_is_lot_like) := ⟨rfl, rfl, rfl, by decide +kernel, rfl, by decide +kernel, by decide +kernel⟩
def b_law_is_lot_like : En → Tree Out := (oRet (mAndV (mA f_law_is_lot (aCons (mVar 0) (aCons (fun _ => .leaf (.int 8)) aNil))) (mB (mC cEq (mA fLen (aCons (mPeek 0) aNil)) (mPeek 1)))))
def f_law_is_lot_like : List D → Tree D := mDef 2 2 b_law_is_lot_like
/-! ### _law_times, level 2 -/
abbrev s_law_times : Stmt := topS 54
abbrev N_law_times : List Str := ["one", "late"]
theorem sc_law_times : FnScope N_law_times ["one", "late"] (defScope s_law_times) := ⟨rfl, rfl, rfl, by decide +kernel, rfl, by decide +kernel, by decide +kernel⟩
def b_law_times : En → Tree Out := (oRet (mA f_law_frac (aCons (m2 opMul (m2 opIx (mPeek 0) (fun _ => .leaf (.int 0))) (m2 opIx (mPeek 1) (fun _ => .leaf (.int 0)))) (aCons (m2 opMul (m2 opIx (mPeek 0) (fun _ => .leaf (.int 1))) (m2 opIx (mPeek 1) (fun _ => .leaf (.int 1)))) aNil))))
def f_law_times : List D → Tree D := mDef 2 2 b_law_times
/-! ### _law_garbled, level 4 -/
abbrev s_law_garbled : Stmt := topS 59
abbrev N_law_garbled : List Str := ["look", "table", "found", "lot", "sign", "one", "row"]
theorem sc_law_garbled : FnScope N_law_garbled ["look", "table"] (defScope s_law_garbled) := ⟨rfl, rfl, rfl, by decide +kernel, rfl, by decide +kernel, by decide +kernel⟩
def b_law_garbled : En → Tree Out := (oSeq (oOwn 2 (mLst aNil))
  (oSeq (oFor (mSeq (mVar 0)) (gPut 3)
  (oApp 2 (mA fTuple (aCons (mList (mLc (mRange1 (mA fLen (aCons (m2 opIx (mPeek 1) (fun _ => .leaf (.int 0))) aNil))) [4] (gPut 4) tYesM (mA f_law_sum (aCons (mList (mLc (mZip (mPeek 3) (mPeek 1)) [5, 6] (gTp 2 (gsCons (gPut 5) (gsCons (gPut 6) gsNil))) tYesM (mA f_law_times (aCons (mVar 5) (aCons (m2 opIx (mPeek 6) (mPeek 4)) aNil))))) aNil)))) aNil))))
  (oFrz 2 (oRet (mVar 2)))))
def f_law_garbled : List D → Tree D := mDef 2 7 b_law_garbled
/-! ### _law_is_garbling, level 6 -/
abbrev s_law_is_garbling : Stmt := topS 68
abbrev N_law_is_garbling : List Str := ["look", "other", "value", "row"]
theorem sc_law_is_garbling : FnScope N_law_is_garbling ["look", "other", "value"] (defScope s_law_is_garbling) := ⟨rfl, rfl, rfl, by decide +kernel, rfl, by decide +kernel, by decide +kernel⟩
def b_law_is_garbling : En → Tree Out := (oSeq (oIf (mOr (mNot (mT (mA f_law_is_list (aCons (mVar 2) aNil)))) (mOr (mC cNe (mA fLen (aCons (mPeek 2) aNil)) (mA fLen (aCons (m2 opIx (mPeek 0) (fun _ => .leaf (.int 0))) aNil))) (mNot (mT (mA fAll (aCons (mList (mLc (mSeq (mPeek 2)) [3] (gPut 3) tYesM (mA f_law_is_lot_like (aCons (mVar 3) (aCons (mA fLen (aCons (m2 opIx (mPeek 1) (fun _ => .leaf (.int 0))) aNil)) aNil))))) aNil))))))
  (oRet (fun _ => .leaf (.bl false)))
  oNx)
  (oRet (mB (mC cEq (mA f_law_garbled (aCons (mVar 0) (aCons (mList (mListOf (mPeek 2))) aNil))) (mList (mListOf (mPeek 1)))))))
def f_law_is_garbling : List D → Tree D := mDef 3 4 b_law_is_garbling
/-! ### check_look, level 8 -/
abbrev s_check_look : Stmt := topS 30
abbrev N_check_look : List Str := ["value"]
theorem sc_check_look : FnScope N_check_look ["value"] (defScope s_check_look) := ⟨rfl, rfl, rfl, by decide +kernel, rfl, by decide +kernel, by decide +kernel⟩
def b_check_look : En → Tree Out := (oIf (mOr (mNot (mT (mA f_are_lots (aCons (mVar 0) (aCons (fun _ => .leaf (.fn 2)) aNil))))) (mC cGt (mA fLen (aCons (mPeek 0) aNil)) (fun _ => .leaf (.int 6))))
  oFail
  oNx)
def f_check_look : List D → Tree D := mDef 1 1 b_check_look
/-! ### check_looks, level 9 -/
abbrev s_check_looks : Stmt := topS 31
abbrev N_check_looks : List Str := ["look", "other"]
theorem sc_check_looks : FnScope N_check_looks ["look", "other"] (defScope s_check_looks) := ⟨rfl, rfl, rfl, by decide +kernel, rfl, by decide +kernel, by decide +kernel⟩
def b_check_looks : En → Tree Out := (oSeq (oEx (mA f_check_look (aCons (mVar 0) aNil)))
  (oSeq (oEx (mA f_check_look (aCons (mVar 1) aNil)))
  (oIf (mC cNe (mA fLen (aCons (mPeek 0) aNil)) (mA fLen (aCons (mPeek 1) aNil)))
  oFail
  oNx)))
def f_check_looks : List D → Tree D := mDef 2 2 b_check_looks
/-! ### signs_of, level 1 -/
abbrev s_signs_of : Stmt := topS 32
abbrev N_signs_of : List Str := ["look"]
theorem sc_signs_of : FnScope N_signs_of ["look"] (defScope s_signs_of) := ⟨rfl, rfl, rfl, by decide +kernel, rfl, by decide +kernel, by decide +kernel⟩
def b_signs_of : En → Tree Out := (oRet (mA fLen (aCons (m2 opIx (mPeek 0) (fun _ => .leaf (.int 0))) aNil)))
def f_signs_of : List D → Tree D := mDef 1 1 b_signs_of
/-! ### multiply, level 3 -/
abbrev s_multiply : Stmt := topS 17
abbrev N_multiply : List Str := ["one", "late"]
theorem sc_multiply : FnScope N_multiply ["one", "late"] (defScope s_multiply) := ⟨rfl, rfl, rfl, by decide +kernel, rfl, by decide +kernel, by decide +kernel⟩
def b_multiply : En → Tree Out := (oRet (mA f_reduced (aCons (m2 opMul (m2 opIx (mPeek 0) (fun _ => .leaf (.int 0))) (m2 opIx (mPeek 1) (fun _ => .leaf (.int 0)))) (aCons (m2 opMul (m2 opIx (mPeek 0) (fun _ => .leaf (.int 1))) (m2 opIx (mPeek 1) (fun _ => .leaf (.int 1)))) aNil))))
def f_multiply : List D → Tree D := mDef 2 2 b_multiply
/-! ### products_sum, level 5 -/
abbrev s_products_sum : Stmt := topS 20
abbrev N_products_sum : List Str := ["some", "others", "one", "late"]
theorem sc_products_sum : FnScope N_products_sum ["some", "others"] (defScope s_products_sum) := ⟨rfl, rfl, rfl, by decide +kernel, rfl, by decide +kernel, by decide +kernel⟩
def b_products_sum : En → Tree Out := (oRet (mA f_total (aCons (mList (mLc (mZip (mPeek 0) (mPeek 1)) [2, 3] (gTp 2 (gsCons (gPut 2) (gsCons (gPut 3) gsNil))) tYesM (mA f_multiply (aCons (mVar 2) (aCons (mVar 3) aNil))))) aNil)))
def f_products_sum : List D → Tree D := mDef 2 4 b_products_sum
/-! ### mixed_of, level 6 -/
abbrev s_mixed_of : Stmt := topS 25
abbrev N_mixed_of : List Str := ["weights", "lots", "place", "lot"]
theorem sc_mixed_of : FnScope N_mixed_of ["weights", "lots"] (defScope s_mixed_of) := ⟨rfl, rfl, rfl, by decide +kernel, rfl, by decide +kernel, by decide +kernel⟩
def b_mixed_of : En → Tree Out := (oRet (mA fTuple (aCons (mList (mLc (mRange1 (mA fLen (aCons (m2 opIx (mPeek 1) (fun _ => .leaf (.int 0))) aNil))) [2] (gPut 2) tYesM (mA f_products_sum (aCons (mVar 0) (aCons (mList (mLc (mSeq (mPeek 1)) [3] (gPut 3) tYesM (m2 opIx (mPeek 3) (mPeek 2)))) aNil))))) aNil)))
def f_mixed_of : List D → Tree D := mDef 2 4 b_mixed_of
/-! ### garbled_of, level 7 -/
abbrev s_garbled_of : Stmt := topS 33
abbrev N_garbled_of : List Str := ["look", "table", "lot"]
theorem sc_garbled_of : FnScope N_garbled_of ["look", "table"] (defScope s_garbled_of) := ⟨rfl, rfl, rfl, by decide +kernel, rfl, by decide +kernel, by decide +kernel⟩
def b_garbled_of : En → Tree Out := (oRet (mList (mLc (mSeq (mPeek 0)) [2] (gPut 2) tYesM (mA f_mixed_of (aCons (mVar 2) (aCons (mVar 1) aNil))))))
def f_garbled_of : List D → Tree D := mDef 2 3 b_garbled_of
/-! ### is_garbling_of, level 8 -/
abbrev s_is_garbling_of : Stmt := topS 34
abbrev N_is_garbling_of : List Str := ["look", "other", "value", "lot"]
theorem sc_is_garbling_of : FnScope N_is_garbling_of ["look", "other", "value"] (defScope s_is_garbling_of) := ⟨rfl, rfl, rfl, by decide +kernel, rfl, by decide +kernel, by decide +kernel⟩
def b_is_garbling_of : En → Tree Out := (oSeq (oIf (mOr (mNot (mT (mA f_are_lots (aCons (mVar 2) (aCons (fun _ => .leaf (.fn 1)) aNil))))) (mOr (mC cNe (mA fLen (aCons (mPeek 2) aNil)) (mA f_signs_of (aCons (mVar 0) aNil))) (mC cNe (mA fLen (aCons (m2 opIx (mPeek 2) (fun _ => .leaf (.int 0))) aNil)) (mA f_signs_of (aCons (mVar 1) aNil)))))
  (oRet (fun _ => .leaf (.bl false)))
  oNx)
  (oRet (mB (mC cEq (mA f_garbled_of (aCons (mVar 0) (aCons (mVar 2) aNil))) (mList (mLc (mSeq (mPeek 1)) [3] (gPut 3) tYesM (mA fTuple (aCons (mPeek 3) aNil))))))))
def f_is_garbling_of : List D → Tree D := mDef 3 4 b_is_garbling_of
/-! ### is_garbling, level 10 -/
abbrev s_is_garbling : Stmt := topS 36
abbrev N_is_garbling : List Str := ["look", "other", "value"]
theorem sc_is_garbling : FnScope N_is_garbling ["look", "other", "value"] (defScope s_is_garbling) := ⟨rfl, rfl, rfl, by decide +kernel, rfl, by decide +kernel, by decide +kernel⟩
def b_is_garbling : En → Tree Out := (oSeq (oEx (mA f_check_looks (aCons (mVar 0) (aCons (mVar 1) aNil))))
  (oRet (mA f_is_garbling_of (aCons (mVar 0) (aCons (mVar 1) (aCons (mVar 2) aNil))))))
def f_is_garbling : List D → Tree D := mDef 3 3 b_is_garbling
/-! ### _law_are_acts, level 3 -/
abbrev s_law_are_acts : Stmt := topS 70
abbrev N_law_are_acts : List Str := ["value", "states", "act", "one"]
theorem sc_law_are_acts : FnScope N_law_are_acts ["value", "states"] (defScope s_law_are_acts) := ⟨rfl, rfl, rfl, by decide +kernel, rfl, by decide +kernel, by decide +kernel⟩
def b_law_are_acts : En → Tree Out := (oSeq (oIf (mOr (mNot (mT (mA f_law_is_list (aCons (mVar 0) aNil)))) (mNot (mCh cLe cLe (fun _ => .leaf (.int 1)) (mA fLen (aCons (mPeek 0) aNil)) (fun _ => .leaf (.int 8)))))
  (oRet (fun _ => .leaf (.bl false)))
  oNx)
  (oRet (mA fAll (aCons (mList (mLc (mSeq (mPeek 0)) [2] (gPut 2) tYesM (mAndV (mA f_law_is_list (aCons (mVar 2) aNil)) (mAndV (mB (mC cEq (mA fLen (aCons (mPeek 2) aNil)) (mPeek 1))) (mA fAll (aCons (mList (mLc (mSeq (mPeek 2)) [3] (gPut 3) tYesM (mA f_law_is_fraction (aCons (mVar 3) aNil)))) aNil)))))) aNil))))
def f_law_are_acts : List D → Tree D := mDef 2 4 b_law_are_acts
/-! ### _law_below, level 1 -/
abbrev s_law_below : Stmt := topS 56
abbrev N_law_below : List Str := ["one", "late"]
theorem sc_law_below : FnScope N_law_below ["one", "late"] (defScope s_law_below) := ⟨rfl, rfl, rfl, by decide +kernel, rfl, by decide +kernel, by decide +kernel⟩
def b_law_below : En → Tree Out := (oRet (mB (mC cLt (m2 opMul (m2 opIx (mPeek 0) (fun _ => .leaf (.int 0))) (m2 opIx (mPeek 1) (fun _ => .leaf (.int 1)))) (m2 opMul (m2 opIx (mPeek 1) (fun _ => .leaf (.int 0))) (m2 opIx (mPeek 0) (fun _ => .leaf (.int 1)))))))
def f_law_below : List D → Tree D := mDef 2 2 b_law_below
/-! ### _law_worths, level 4 -/
abbrev s_law_worths : Stmt := topS 60
abbrev N_law_worths : List Str := ["look", "prior", "acts", "found", "sign", "chances", "one", "lot", "act", "late"]
theorem sc_law_worths : FnScope N_law_worths ["look", "prior", "acts"] (defScope s_law_worths) := ⟨rfl, rfl, rfl, by decide +kernel, rfl, by decide +kernel, by decide +kernel⟩
def b_law_worths : En → Tree Out := (oSeq (oOwn 3 (mLst aNil))
  (oSeq (oFor (mRange1 (mA fLen (aCons (m2 opIx (mPeek 0) (fun _ => .leaf (.int 0))) aNil))) (gPut 4)
  (oSeq (oSet 5 (mList (mLc (mZip (mPeek 1) (mPeek 0)) [6, 7] (gTp 2 (gsCons (gPut 6) (gsCons (gPut 7) gsNil))) tYesM (mA f_law_times (aCons (mVar 6) (aCons (m2 opIx (mPeek 7) (mPeek 4)) aNil))))))
  (oApp 3 (mList (mLc (mSeq (mPeek 2)) [8] (gPut 8) tYesM (mA f_law_sum (aCons (mList (mLc (mZip (mPeek 5) (mPeek 8)) [6, 9] (gTp 2 (gsCons (gPut 6) (gsCons (gPut 9) gsNil))) tYesM (mA f_law_times (aCons (mVar 6) (aCons (mVar 9) aNil))))) aNil)))))))
  (oFrz 3 (oRet (mVar 3)))))
def f_law_worths : List D → Tree D := mDef 3 10 b_law_worths
/-! ### _law_greatest, level 2 -/
abbrev s_law_greatest : Stmt := topS 61
abbrev N_law_greatest : List Str := ["some", "found", "one"]
theorem sc_law_greatest : FnScope N_law_greatest ["some"] (defScope s_law_greatest) := ⟨rfl, rfl, rfl, by decide +kernel, rfl, by decide +kernel, by decide +kernel⟩
def b_law_greatest : En → Tree Out := (oSeq (oSet 1 (m2 opIx (mPeek 0) (fun _ => .leaf (.int 0))))
  (oSeq (oFor (mSeq (mCut (mPeek 0) (mPart (fun _ => .leaf (.int 1))) (fun _ => .leaf none))) (gPut 2)
  (oIf (mT (mA f_law_below (aCons (mVar 1) (aCons (mVar 2) aNil))))
  (oSet 1 (mVar 2))
  oNx))
  (oRet (mVar 1))))
def f_law_greatest : List D → Tree D := mDef 1 3 b_law_greatest
/-! ### _law_worth, level 5 -/
abbrev s_law_worth : Stmt := topS 62
abbrev N_law_worth : List Str := ["look", "prior", "acts", "row"]
theorem sc_law_worth : FnScope N_law_worth ["look", "prior", "acts"] (defScope s_law_worth) := ⟨rfl, rfl, rfl, by decide +kernel, rfl, by decide +kernel, by decide +kernel⟩
def b_law_worth : En → Tree Out := (oRet (mA f_law_sum (aCons (mList (mLc (mSeq (mA f_law_worths (aCons (mVar 0) (aCons (mVar 1) (aCons (mVar 2) aNil))))) [3] (gPut 3) tYesM (mA f_law_greatest (aCons (mVar 3) aNil)))) aNil)))
def f_law_worth : List D → Tree D := mDef 3 4 b_law_worth
/-! ### _law_is_better, level 6 -/
abbrev s_law_is_better : Stmt := topS 71
abbrev N_law_is_better : List Str := ["look", "other", "value"]
theorem sc_law_is_better : FnScope N_law_is_better ["look", "other", "value"] (defScope s_law_is_better) := ⟨rfl, rfl, rfl, by decide +kernel, rfl, by decide +kernel, by decide +kernel⟩
def b_law_is_better : En → Tree Out := (oSeq (oIf (mOr (mNot (mT (mA fIsi (aCons (mPeek 2) (aCons (fun _ => .leaf (.ty "tuple")) aNil))))) (mOr (mC cNe (mA fLen (aCons (mPeek 2) aNil)) (fun _ => .leaf (.int 2))) (mOr (mNot (mT (mA f_law_is_lot_like (aCons (m2 opIx (mPeek 2) (fun _ => .leaf (.int 0))) (aCons (mA fLen (aCons (mPeek 0) aNil)) aNil))))) (mNot (mT (mA f_law_are_acts (aCons (m2 opIx (mPeek 2) (fun _ => .leaf (.int 1))) (aCons (mA fLen (aCons (mPeek 0) aNil)) aNil))))))))
  (oRet (fun _ => .leaf (.bl false)))
  oNx)
  (oRet (mA f_law_below (aCons (mA f_law_worth (aCons (mVar 0) (aCons (m2 opIx (mPeek 2) (fun _ => .leaf (.int 0))) (aCons (m2 opIx (mPeek 2) (fun _ => .leaf (.int 1))) aNil)))) (aCons (mA f_law_worth (aCons (mVar 1) (aCons (m2 opIx (mPeek 2) (fun _ => .leaf (.int 0))) (aCons (m2 opIx (mPeek 2) (fun _ => .leaf (.int 1))) aNil)))) aNil)))))
def f_law_is_better : List D → Tree D := mDef 3 3 b_law_is_better
/-! ### are_acts, level 7 -/
abbrev s_are_acts : Stmt := topS 39
abbrev N_are_acts : List Str := ["states", "value", "is_own", "act", "one"]
theorem sc_are_acts : FnScope N_are_acts ["states", "value", "is_own"] (defScope s_are_acts) := ⟨rfl, rfl, rfl, by decide +kernel, rfl, by decide +kernel, by decide +kernel⟩
def b_are_acts : En → Tree Out := (oSeq (oIf (mOr (mNot (mT (mA f_is_list (aCons (mVar 1) aNil)))) (mNot (mCh cLe cLe (fun _ => .leaf (.int 1)) (mA fLen (aCons (mPeek 1) aNil)) (fun _ => .leaf (.int 8)))))
  (oRet (fun _ => .leaf (.bl false)))
  oNx)
  (oSeq (oIf (mNot (mT (mA fAll (aCons (mList (mLc (mSeq (mPeek 1)) [3] (gPut 3) tYesM (mAndV (mA f_is_list (aCons (mVar 3) aNil)) (mB (mC cEq (mA fLen (aCons (mPeek 3) aNil)) (mPeek 0)))))) aNil))))
  (oRet (fun _ => .leaf (.bl false)))
  oNx)
  (oRet (mA fAll (aCons (mList (mLc (mSeq (mPeek 1)) [3] (gPut 3) tYesM (mA fAll (aCons (mList (mLc (mSeq (mPeek 3)) [4] (gPut 4) tYesM (mCallV 2 [f_is_fraction_of, f_is_lot_of, f_is_short_lot] (aCons (mVar 4) aNil)))) aNil)))) aNil)))))
def f_are_acts : List D → Tree D := mDef 3 5 b_are_acts
/-! ### is_below, level 1 -/
abbrev s_is_below : Stmt := topS 18
abbrev N_is_below : List Str := ["one", "late"]
theorem sc_is_below : FnScope N_is_below ["one", "late"] (defScope s_is_below) := ⟨rfl, rfl, rfl, by decide +kernel, rfl, by decide +kernel, by decide +kernel⟩
def b_is_below : En → Tree Out := (oRet (mB (mC cLt (m2 opMul (m2 opIx (mPeek 0) (fun _ => .leaf (.int 0))) (m2 opIx (mPeek 1) (fun _ => .leaf (.int 1)))) (m2 opMul (m2 opIx (mPeek 1) (fun _ => .leaf (.int 0))) (m2 opIx (mPeek 0) (fun _ => .leaf (.int 1)))))))
def f_is_below : List D → Tree D := mDef 2 2 b_is_below
/-! ### seen_with, level 4 -/
abbrev s_seen_with : Stmt := topS 40
abbrev N_seen_with : List Str := ["look", "prior", "sign", "one", "lot"]
theorem sc_seen_with : FnScope N_seen_with ["look", "prior", "sign"] (defScope s_seen_with) := ⟨rfl, rfl, rfl, by decide +kernel, rfl, by decide +kernel, by decide +kernel⟩
def b_seen_with : En → Tree Out := (oRet (mList (mLc (mZip (mPeek 1) (mPeek 0)) [3, 4] (gTp 2 (gsCons (gPut 3) (gsCons (gPut 4) gsNil))) tYesM (mA f_multiply (aCons (mVar 3) (aCons (m2 opIx (mPeek 4) (mPeek 2)) aNil))))))
def f_seen_with : List D → Tree D := mDef 3 5 b_seen_with
/-! ### gains_at, level 6 -/
abbrev s_gains_at : Stmt := topS 41
abbrev N_gains_at : List Str := ["look", "prior", "acts", "sign", "row", "act"]
theorem sc_gains_at : FnScope N_gains_at ["look", "prior", "acts", "sign"] (defScope s_gains_at) := ⟨rfl, rfl, rfl, by decide +kernel, rfl, by decide +kernel, by decide +kernel⟩
def b_gains_at : En → Tree Out := (oSeq (oSet 4 (mA f_seen_with (aCons (mVar 0) (aCons (mVar 1) (aCons (mVar 3) aNil)))))
  (oRet (mList (mLc (mSeq (mPeek 2)) [5] (gPut 5) tYesM (mA f_products_sum (aCons (mVar 4) (aCons (mVar 5) aNil)))))))
def f_gains_at : List D → Tree D := mDef 4 6 b_gains_at
/-! ### worth_by, level 7 -/
abbrev s_worth_by : Stmt := topS 44
abbrev N_worth_by : List Str := ["look", "prior", "acts", "plan", "sign", "act"]
theorem sc_worth_by : FnScope N_worth_by ["look", "prior", "acts", "plan"] (defScope s_worth_by) := ⟨rfl, rfl, rfl, by decide +kernel, rfl, by decide +kernel, by decide +kernel⟩
def b_worth_by : En → Tree Out := (oRet (mA f_total (aCons (mList (mLc (mEnum (mPeek 3)) [4, 5] (gTp 2 (gsCons (gPut 4) (gsCons (gPut 5) gsNil))) tYesM (m2 opIx (mA f_gains_at (aCons (mVar 0) (aCons (mVar 1) (aCons (mVar 2) (aCons (mVar 4) aNil))))) (mPeek 5)))) aNil)))
def f_worth_by : List D → Tree D := mDef 4 6 b_worth_by
/-! ### best_of, level 2 -/
abbrev s_best_of : Stmt := topS 42
abbrev N_best_of : List Str := ["some", "found", "place", "one"]
theorem sc_best_of : FnScope N_best_of ["some"] (defScope s_best_of) := ⟨rfl, rfl, rfl, by decide +kernel, rfl, by decide +kernel, by decide +kernel⟩
def b_best_of : En → Tree Out := (oSeq (oSet 1 (fun _ => .leaf (.int 0)))
  (oSeq (oFor (mEnum (mVar 0)) (gTp 2 (gsCons (gPut 2) (gsCons (gPut 3) gsNil)))
  (oIf (mT (mA f_is_below (aCons (m2 opIx (mPeek 0) (mPeek 1)) (aCons (mVar 3) aNil))))
  (oSet 1 (mVar 2))
  oNx))
  (oRet (mVar 1))))
def f_best_of : List D → Tree D := mDef 1 4 b_best_of
/-! ### plan_of, level 7 -/
abbrev s_plan_of : Stmt := topS 43
abbrev N_plan_of : List Str := ["look", "prior", "acts", "sign"]
theorem sc_plan_of : FnScope N_plan_of ["look", "prior", "acts"] (defScope s_plan_of) := ⟨rfl, rfl, rfl, by decide +kernel, rfl, by decide +kernel, by decide +kernel⟩
def b_plan_of : En → Tree Out := (oRet (mList (mLc (mRange1 (mA f_signs_of (aCons (mVar 0) aNil))) [3] (gPut 3) tYesM (mA f_best_of (aCons (mA f_gains_at (aCons (mVar 0) (aCons (mVar 1) (aCons (mVar 2) (aCons (mVar 3) aNil))))) aNil)))))
def f_plan_of : List D → Tree D := mDef 3 4 b_plan_of
/-! ### worth_of, level 8 -/
abbrev s_worth_of : Stmt := topS 45
abbrev N_worth_of : List Str := ["look", "prior", "acts"]
theorem sc_worth_of : FnScope N_worth_of ["look", "prior", "acts"] (defScope s_worth_of) := ⟨rfl, rfl, rfl, by decide +kernel, rfl, by decide +kernel, by decide +kernel⟩
def b_worth_of : En → Tree Out := (oRet (mA f_worth_by (aCons (mVar 0) (aCons (mVar 1) (aCons (mVar 2) (aCons (mA f_plan_of (aCons (mVar 0) (aCons (mVar 1) (aCons (mVar 2) aNil)))) aNil))))))
def f_worth_of : List D → Tree D := mDef 3 3 b_worth_of
/-! ### is_better_choice, level 10 -/
abbrev s_is_better_choice : Stmt := topS 46
abbrev N_is_better_choice : List Str := ["look", "other", "value"]
theorem sc_is_better_choice : FnScope N_is_better_choice ["look", "other", "value"] (defScope s_is_better_choice) := ⟨rfl, rfl, rfl, by decide +kernel, rfl, by decide +kernel, by decide +kernel⟩
def b_is_better_choice : En → Tree Out := (oSeq (oEx (mA f_check_looks (aCons (mVar 0) (aCons (mVar 1) aNil))))
  (oSeq (oIf (mOr (mNot (mT (mA fIsi (aCons (mPeek 2) (aCons (fun _ => .leaf (.ty "tuple")) aNil))))) (mOr (mC cNe (mA fLen (aCons (mPeek 2) aNil)) (fun _ => .leaf (.int 2))) (mOr (mNot (mT (mA f_is_lot_of (aCons (m2 opIx (mPeek 2) (fun _ => .leaf (.int 0))) aNil)))) (mC cNe (mA fLen (aCons (m2 opIx (mPeek 2) (fun _ => .leaf (.int 0))) aNil)) (mA fLen (aCons (mPeek 0) aNil))))))
  (oRet (fun _ => .leaf (.bl false)))
  oNx)
  (oSeq (oIf (mNot (mT (mA f_are_acts (aCons (mA fLen (aCons (mPeek 0) aNil)) (aCons (m2 opIx (mPeek 2) (fun _ => .leaf (.int 1))) (aCons (fun _ => .leaf (.fn 0)) aNil))))))
  (oRet (fun _ => .leaf (.bl false)))
  oNx)
  (oRet (mA f_is_below (aCons (mA f_worth_of (aCons (mVar 0) (aCons (m2 opIx (mPeek 2) (fun _ => .leaf (.int 0))) (aCons (m2 opIx (mPeek 2) (fun _ => .leaf (.int 1))) aNil)))) (aCons (mA f_worth_of (aCons (mVar 1) (aCons (m2 opIx (mPeek 2) (fun _ => .leaf (.int 0))) (aCons (m2 opIx (mPeek 2) (fun _ => .leaf (.int 1))) aNil)))) aNil)))))))
def f_is_better_choice : List D → Tree D := mDef 3 3 b_is_better_choice
/-! ### _law_papers_right, level 11 -/
abbrev s_law_papers_right : Stmt := topS 74
abbrev N_law_papers_right : List Str := ["pot", "look", "other", "table", "choice", "values", "value", "due", "shown", "turn", "row"]
theorem sc_law_papers_right : FnScope N_law_papers_right ["pot", "look", "other", "table", "choice"] (defScope s_law_papers_right) := ⟨rfl, rfl, rfl, by decide +kernel, rfl, by decide +kernel, by decide +kernel⟩
def b_law_papers_right : En → Tree Out := (oSeq (oSet 5 (m2 opAdd (mList (mLst (aCons (mVar 3) (aCons (mA fTuple (aCons (mPeek 3) aNil)) (aCons (mList (mLc (mSeq (mPeek 3)) [10] (gPut 10) tYesM (mList (mListOf (mPeek 10))))) (aCons (fun _ => .leaf .non) (aCons (mList (mLst aNil)) (aCons (fun _ => .leaf (.int 0)) (aCons (mRevA (mPeek 3)) aNil))))))))) (mList (mLc (mRange1 (fun _ => .leaf (.int 12))) [9] (gPut 9) tYesM (mA f_law_bent (aCons (mVar 0) (aCons (mVar 3) aNil)))))))
  (oSeq (oFor (mSeq (mVar 5)) (gPut 6)
  (oSeq (oPar 7 8 (aCons (mA f_law_is_garbling (aCons (mVar 1) (aCons (mVar 2) (aCons (mVar 6) aNil)))) (aCons (mA fRepr (aCons (mPeek 6) aNil)) aNil)))
  (oIf (mOr (mC cNe (mA fRepr (aCons (mList (mLst (aCons (mA f_is_garbling (aCons (mVar 1) (aCons (mVar 2) (aCons (mVar 6) aNil)))) (aCons (mA (fun ds => f_is_garbling (permD [2, 1, 0] ds)) (aCons (mVar 6) (aCons (mVar 2) (aCons (mVar 1) aNil)))) aNil)))) aNil)) (mA fRepr (aCons (mList (mLst (aCons (mVar 7) (aCons (mVar 7) aNil)))) aNil))) (mC cNe (mA fRepr (aCons (mPeek 6) aNil)) (mPeek 8)))
  (oRet (fun _ => .leaf (.bl false)))
  oNx)))
  (oSeq (oSet 5 (m2 opAdd (mList (mLst (aCons (mVar 4) (aCons (mTup (aCons (m2 opIx (mPeek 4) (fun _ => .leaf (.int 0))) (aCons (mA fTuple (aCons (m2 opIx (mPeek 4) (fun _ => .leaf (.int 1))) aNil)) aNil))) (aCons (fun _ => .leaf .non) (aCons (mTup aNil) (aCons (fun _ => .leaf (.int 0)) (aCons (mTup (aCons (m2 opIx (mPeek 4) (fun _ => .leaf (.int 0))) (aCons (mList (mLst aNil)) aNil))) (aCons (mRevA (mPeek 4)) aNil))))))))) (mList (mLc (mRange1 (fun _ => .leaf (.int 12))) [9] (gPut 9) tYesM (mA f_law_bent (aCons (mVar 0) (aCons (mVar 4) aNil)))))))
  (oSeq (oFor (mSeq (mVar 5)) (gPut 6)
  (oSeq (oPar 7 8 (aCons (mA f_law_is_better (aCons (mVar 1) (aCons (mVar 2) (aCons (mVar 6) aNil)))) (aCons (mA fRepr (aCons (mPeek 6) aNil)) aNil)))
  (oIf (mOr (mC cNe (mA fRepr (aCons (mList (mLst (aCons (mA f_is_better_choice (aCons (mVar 1) (aCons (mVar 2) (aCons (mVar 6) aNil)))) (aCons (mA (fun ds => f_is_better_choice (permD [2, 1, 0] ds)) (aCons (mVar 6) (aCons (mVar 2) (aCons (mVar 1) aNil)))) aNil)))) aNil)) (mA fRepr (aCons (mList (mLst (aCons (mVar 7) (aCons (mVar 7) aNil)))) aNil))) (mC cNe (mA fRepr (aCons (mPeek 6) aNil)) (mPeek 8)))
  (oRet (fun _ => .leaf (.bl false)))
  oNx)))
  (oRet (fun _ => .leaf (.bl true)))))))
def f_law_papers_right : List D → Tree D := mDef 5 11 b_law_papers_right
/-! ### _law_right, level 12 -/
abbrev s_law_right : Stmt := topS 75
abbrev N_law_right : List Str := ["pot", "states", "signs", "look", "many", "table", "choice", "sign"]
theorem sc_law_right : FnScope N_law_right ["pot"] (defScope s_law_right) := ⟨rfl, rfl, rfl, by decide +kernel, rfl, by decide +kernel, by decide +kernel⟩
def b_law_right : En → Tree Out := (oSeq (oPar 1 2 (aCons (m2 opAdd (fun _ => .leaf (.int 1)) (mA f_law_draw (aCons (mVar 0) (aCons (fun _ => .leaf (.int 4)) aNil)))) (aCons (m2 opAdd (fun _ => .leaf (.int 1)) (mA f_law_draw (aCons (mVar 0) (aCons (fun _ => .leaf (.int 4)) aNil)))) aNil)))
  (oSeq (oAsg (mTup (aCons (mA f_law_look (aCons (mVar 0) (aCons (mVar 1) (aCons (mVar 2) aNil)))) (aCons (m2 opAdd (fun _ => .leaf (.int 1)) (mA f_law_draw (aCons (mVar 0) (aCons (fun _ => .leaf (.int 3)) aNil)))) aNil))) (gTp 2 (gsCons (gPut 3) (gsCons (gPut 4) gsNil))))
  (oSeq (oSet 5 (mList (mLc (mRange1 (mPeek 2)) [7] (gPut 7) tYesM (mA f_law_lot (aCons (mVar 0) (aCons (mVar 4) aNil))))))
  (oSeq (oSet 6 (mTup (aCons (mA f_law_lot (aCons (mVar 0) (aCons (mVar 1) aNil))) (aCons (mA f_law_acts (aCons (mVar 0) (aCons (mVar 1) aNil))) aNil))))
  (oSeq (oIf (mOr (mNot (mT (mA f_law_looks_right (aCons (mVar 0) (aCons (mVar 3) aNil))))) (mNot (mT (mA f_law_papers_right (aCons (mVar 0) (aCons (mVar 3) (aCons (mA f_law_garbled (aCons (mVar 3) (aCons (mVar 5) aNil))) (aCons (mVar 5) (aCons (mVar 6) aNil)))))))))
  (oRet (fun _ => .leaf (.bl false)))
  oNx)
  (oRet (mA f_law_papers_right (aCons (mVar 0) (aCons (mA f_law_garbled (aCons (mVar 3) (aCons (mVar 5) aNil))) (aCons (mVar 3) (aCons (mVar 5) (aCons (mVar 6) aNil))))))))))))
def f_law_right : List D → Tree D := mDef 1 8 b_law_right
/-! ### _law_pot, level 1 -/
abbrev s_law_pot : Stmt := topS 48
abbrev N_law_pot : List Str := ["script", "k", "cell"]
theorem sc_law_pot : FnScope N_law_pot ["script", "k"] (defScope s_law_pot) := ⟨rfl, rfl, rfl, by decide +kernel, rfl, by decide +kernel, by decide +kernel⟩
def b_law_pot : En → Tree Out := (oSeq (oSet 2 (mIf (mC cLt (mPeek 1) (mA fLen (aCons (mPeek 0) aNil))) (mA fAbs (aCons (m2 opIx (mPeek 0) (mPeek 1)) aNil)) (m2 opAdd (m2 opMul (fun _ => .leaf (.int 2861)) (mPeek 1)) (fun _ => .leaf (.int 1607)))))
  (oPot (mLst (aCons (mA fMax2 (aCons (fun _ => .leaf (.int 0)) (aCons (m2 opSub (mPeek 2) (m2 opPow (fun _ => .leaf (.int 10)) (fun _ => .leaf (.int 18)))) aNil))) (aCons (m2 opAdd (m2 opMod (mA fInt (aCons (m2 opAdd (m2 opAdd (m2 opMul (m2 opMod (mA fInt (aCons (mPeek 2) aNil)) (fun _ => .leaf (.int 2147483549))) (fun _ => .leaf (.int 43487))) (m2 opMul (fun _ => .leaf (.int 1607)) (mPeek 1))) (fun _ => .leaf (.int 2861))) aNil)) (fun _ => .leaf (.int 2147483563))) (fun _ => .leaf (.int 1))) aNil)))))
def f_law_pot : List D → Tree D := mDef 2 3 b_law_pot
/-! ### law, level 13 -/
abbrev s_law : Stmt := topS 76
abbrev N_law : List Str := ["script", "k"]
theorem sc_law : FnScope N_law ["script"] (defScope s_law) := ⟨rfl, rfl, rfl, by decide +kernel, rfl, by decide +kernel, by decide +kernel⟩
def b_law : En → Tree Out := (oRet (mA fAll (aCons (mList (mLc (mRange1 (mA fMax2 (aCons (fun _ => .leaf (.int 1)) (aCons (mA fMin2 (aCons (fun _ => .leaf (.int 2)) (aCons (mA fLen (aCons (mPeek 0) aNil)) aNil))) aNil)))) [1] (gPut 1) tYesM (mA f_law_right (aCons (mA f_law_pot (aCons (mVar 0) (aCons (mVar 1) aNil))) aNil)))) aNil)))
def f_law : List D → Tree D := mDef 1 2 b_law
section
variable {P : Program} {w : World} {K : PySem.W.Frag} {mg : Str → Option Value} {base : Heap}
theorem ok_law_draw (nb : Nb mg) : ∀ f fd, Fun K "_law_draw" "_law_draw" s_law_draw f fd → FnG P w K mg base 1 f fd ["pot", "many"] (spF K f_law_draw) := fun f fd F => by
  refine FnG.of (F.ok sc_law_draw (fun vs H Q E h => fDraw_len vs H Q E h) (fun cdv A outer s H vs Q E hr h => ?_))
  obtain ⟨a, n, p, q, rfl, hp, h0, h1, h2, h3, h4, fin⟩ := fDraw_of h
  refine ⟨_, pss_cons (ps_if (pt_cmpR op_gt (pe_ix ix_list (pv 0) pe_int (fun _ _ => rfl)) pe_int (nomark _))
      (pss_cons (ps_asg (pe_callB call_divmodW (by rfl) nb.b_divmod (by decide +kernel) (pa_cons (pe_ix ix_list (pv 0) pe_int (fun _ _ => rfl)) (pa_cons (pv 1) pa_nil)))
        (pg_tup rfl (pgs_cons (pg_sub (pv 0) pe_int set_list) (pgs_cons (pg_name (i := 2) sc_law_draw.nd rfl (.inl rfl)) pgs_nil)))) (pss_one (ps_ret (pv 2)))) pss_nil)
    (pss_cons (ps_asg (pe_op op_mod (pe_callTy call_int1 (by rfl) nb.b_int (by decide +kernel) (pa_cons (pe_op op_add (pe_op op_mul (pe_ix ix_list (pv 0) pe_int (fun _ _ => rfl)) pe_int) pe_int) pa_nil)) pe_int) (pg_sub (pv 0) pe_int set_list))
    (pss_one (ps_ret (pe_op op_mod (pe_callTy call_int1 (by rfl) nb.b_int (by decide +kernel) (pa_cons (pe_op op_fdiv (pe_op op_mod (pe_callTy call_int1 (by rfl) nb.b_int (by decide +kernel) (pa_cons (pe_op op_mul (pe_ix ix_list (pv 0) pe_int (fun _ _ => rfl)) (pe_ix ix_list (pv 0) pe_int (fun _ _ => rfl))) pa_nil)) pe_int) pe_int) pa_nil)) (pv 1))))), ?_⟩
  refine ⟨.ref a, rfl, a, _, 0, .int p, rfl, rfl, .of hp, rfl, p, 0, rfl, rfl, _, rfl, ite2 (fun e => ?_) (fun e => ?_)⟩
  · have hpos : 0 < p := of_decide_eq_true e
    refine ⟨.ref a, rfl, a, _, 0, .int p, rfl, rfl, .of hp, rfl, .int n, rfl, p, n, rfl, ⟨h3, R.noPy h4⟩, fun T nT => ?_⟩
    have ne : a ≠ T := ne_of_none hp nT
    refine ⟨T, _, rfl, .of upd_same, rfl, .int (p / n), _, rfl, ⟨.ref a, rfl, a, _, 0, 0, rfl, rfl, by rw [upd_ne ne]; exact hp, rfl, ?_⟩⟩
    refine ⟨.int (p % n), [], rfl, ⟨rfl, .int (p % n), rfl, ?_⟩⟩
    exact fin _ (p / n) q (p % n) (Int.ediv_nonneg h0 (by omega)) h1 h2 (Int.emod_nonneg _ (by omega)) (Int.emod_lt_of_pos _ h3) ⟨T, _, .inl ⟨rfl, nT⟩⟩
  · refine ⟨.ref a, rfl, a, _, 1, .int q, rfl, rfl, .of hp, rfl, q, _, rfl, rfl, .inl ⟨by omega, by omega⟩, _, _, rfl, rfl, .inl ⟨_, rfl, _, _, rfl, rfl, (by show (0 : Int) < _; decide), .ref a, rfl, a, _, 1, 1, rfl, rfl, hp, rfl, ?_⟩⟩
    rw [show ((fun i j => V.int (i % j)) (q * 40014 + 2129) 2147483563 : V) = V.int ((q * 40014 + 2129) % 2147483563) from rfl]
    generalize hq : (q * 40014 + 2129) % 2147483563 = q'
    have b1 : 0 ≤ q' := by rw [← hq]; exact Int.emod_nonneg _ (by decide)
    have b2 : q' < 4294967296 := by rw [← hq]; exact Int.lt_trans (Int.emod_lt_of_pos _ (by decide)) (by decide)
    refine ⟨.ref a, rfl, a, _, 1, .int q', rfl, rfl, .of upd_same, rfl, .ref a, rfl, a, _, 1, .int q', rfl, rfl, .of upd_same, rfl, q', q', rfl, rfl, .inl ⟨by omega, by omega⟩, .inl ⟨_, rfl, _, _, rfl, rfl, (by show (0 : Int) < _; decide), _, _, rfl, rfl, ⟨by decide, by decide⟩, .inl ⟨_, rfl, .int n, rfl, _, n, rfl, rfl, h3, ?_⟩⟩⟩
    exact fin _ p q' _ h0 b1 b2 (Int.emod_nonneg _ (by omega)) (Int.emod_lt_of_pos _ h3) ⟨a, .lst [], .inr rfl⟩

theorem ok_law_frac (nb : Nb mg) : ∀ f fd, Fun K "_law_frac" "_law_frac" s_law_frac f fd → FnG P w K mg base 1 f fd ["top", "bottom"] (spF K f_law_frac) := fun f fd F => def_okG (m := b_law_frac) 2 4 F sc_law_frac rfl rfl fun cdv A outer s H E hcv hG hr =>
  (ss_cons (s_if (st_cmp op_lt c2_int (sp_var (pv 1)) (SE.sp se_int) (nomark _))
  (ss_one (s_par (ps_par (by rfl) sc_law_frac.nd rfl rfl (by decide) rfl rfl (SA.pa (sa_cons (se_op op_sub o2_sub (SE.sp se_int) (sp_var (pv 0))) (sa_cons (se_op op_sub o2_sub (SE.sp se_int) (sp_var (pv 1))) sa_nil))) (by rfl)) (fun _ _ _ h => h)))
  ss_nil)
  (ss_cons (s_par (ps_par (by rfl) sc_law_frac.nd rfl rfl (by decide) rfl rfl (SA.pa (sa_cons (se_bi call_abs f1_abs (by rfl) nb.b_abs (by decide +kernel) (spa_cons (sp_var (pv 0)) spa_nil)) (sa_cons (se_var (pv 1)) sa_nil))) (by rfl)) (fun _ _ _ h => h))
  (ss_cons (s_while FUEL (fun hc hb => ps_while PassesOwn.never hc hb) (st_cmp op_gt c2_int (sp_var (pv 3)) (SE.sp se_int) (nomark _))
  (ss_one (s_par (ps_par (by rfl) sc_law_frac.nd rfl rfl (by decide) rfl rfl (SA.pa (sa_cons (se_var (pv 3)) (sa_cons (se_op op_mod o2_mod (SE.sp (se_bt call_int1 f1_int (by rfl) nb.b_int (by decide +kernel) (spa_cons (sp_var (pv 2)) spa_nil))) (sp_var (pv 3))) sa_nil))) (by rfl)) (fun _ _ _ h => h))))
  (ss_one (s_ret (se_tup (sa_cons (se_op op_fdivW o2_div (sp_var (pv 0)) (sp_var (pv 2))) (sa_cons (se_op op_fdivW o2_div (sp_var (pv 1)) (sp_var (pv 2))) sa_nil))))))))
theorem ok_law_lot (c_law_draw : CalG P w K mg base 1 "_law_draw" f_law_draw) (c_law_frac : CalG P w K mg base 1 "_law_frac" f_law_frac) (nb : Nb mg) : ∀ f fd, Fun K "_law_lot" "_law_lot" s_law_lot f fd → FnG P w K mg base 2 f fd ["pot", "many"] (spF K f_law_lot) := fun f fd F => def_okG (m := b_law_lot) 2 6 F sc_law_lot rfl rfl fun cdv A outer s H E hcv hG hr =>
  (ss_cons (s_own (ps_set (i := 2) sc_law_lot.nd rfl (by first | exact .inl rfl | exact .inr rfl) (SL.pe (sl_lc (own := [("place", 4)]) rfl sc_law_lot.nd (SI.sip (si_range1 (by rfl) nb.b_range (sp_var (pv 1)))) (blkOk_by (N := N_law_lot) (sc := (defScope s_law_lot)) (by decide +kernel)) (fun _ _ _ _ _ => (sg_name (pg_name (i := 4) sc_law_lot.nd rfl (by first | exact .inl rfl | exact .inr rfl)))) (fun _ _ _ _ _ => sts_nil) (fun _ _ _ _ _ => (se_if (st_cmp op_gt c2_int (SE.sp (se_cG c_law_draw hG hr (by decide) (by rfl) (sa_cons (se_var (pv 0)) (sa_cons se_int sa_nil)))) (SE.sp se_int) (nomark _)) (se_cG c_law_draw hG hr (by decide) (by rfl) (sa_cons (se_var (pv 0)) (sa_cons se_int sa_nil))) se_int)) (by decide)))) (fun _ _ _ h => h))
  (ss_cons (s_asg (ps_set (i := 3) sc_law_lot.nd rfl (by first | exact .inl rfl | exact .inr rfl) (SE.pe (se_cG c_law_draw hG hr (by decide) (by rfl) (sa_cons (se_var (pv 0)) (sa_cons (se_var (pv 1)) sa_nil))))) (fun _ _ _ h => h))
  (ss_cons (s_store (se_op or_add o2_add (SE.sp (se_op or_add o2_add (SE.sp (se_ix ix_seq o2_ix (sp_var (pv 2)) (sp_var (pv 3)) (fun _ _ => rfl))) (SE.sp se_int))) (SE.sp (se_cG c_law_draw hG hr (by decide) (by rfl) (sa_cons (se_var (pv 0)) (sa_cons se_int sa_nil))))) (pg_sub (pv 2) (SP.pe (sp_var (pv 3))) set_list))
  (ss_one (s_ret (se_bt call_tuple_of f1_tuple (by rfl) nb.b_tuple (by decide +kernel) (spa_cons (SE.sp (SL.se (sl_lc (own := [("top", 5)]) rfl sc_law_lot.nd (sip_seq (sp_var (pv 2))) (blkOk_by (N := N_law_lot) (sc := (defScope s_law_lot)) (by decide +kernel)) (fun _ _ _ _ _ => (sg_name (pg_name (i := 5) sc_law_lot.nd rfl (by first | exact .inl rfl | exact .inr rfl)))) (fun _ _ _ _ _ => sts_nil) (fun _ _ _ _ _ => (se_cG c_law_frac hG hr (by decide) (by rfl) (sa_cons (se_var (pv 5)) (sa_cons (se_bi (cr_sum rfl) f1_sum (by rfl) nb.b_sum (by decide +kernel) (spa_cons (sp_var (pv 2)) spa_nil)) sa_nil)))) (by decide)))) spa_nil)))))))
theorem ok_law_look (c_law_lot : CalG P w K mg base 2 "_law_lot" f_law_lot) (nb : Nb mg) : ∀ f fd, Fun K "_law_look" "_law_look" s_law_look f fd → FnG P w K mg base 3 f fd ["pot", "states", "signs"] (spF K f_law_look) := fun f fd F => def_okG (m := b_law_look) 3 4 F sc_law_look rfl rfl fun cdv A outer s H E hcv hG hr =>
  (ss_one (s_ret (SL.se (sl_lc (own := [("state", 3)]) rfl sc_law_look.nd (SI.sip (si_range1 (by rfl) nb.b_range (sp_var (pv 1)))) (blkOk_by (N := N_law_look) (sc := (defScope s_law_look)) (by decide +kernel)) (fun _ _ _ _ _ => (sg_name (pg_name (i := 3) sc_law_look.nd rfl (by first | exact .inl rfl | exact .inr rfl)))) (fun _ _ _ _ _ => sts_nil) (fun _ _ _ _ _ => (se_cG c_law_lot hG hr (by decide) (by rfl) (sa_cons (se_var (pv 0)) (sa_cons (se_var (pv 2)) sa_nil)))) (by decide)))))
theorem ok_law_acts (c_law_draw : CalG P w K mg base 1 "_law_draw" f_law_draw) (c_law_frac : CalG P w K mg base 1 "_law_frac" f_law_frac) (nb : Nb mg) : ∀ f fd, Fun K "_law_acts" "_law_acts" s_law_acts f fd → FnG P w K mg base 2 f fd ["pot", "states"] (spF K f_law_acts) := fun f fd F => def_okG (m := b_law_acts) 2 4 F sc_law_acts rfl rfl fun cdv A outer s H E hcv hG hr =>
  (ss_one (s_ret (SL.se (sl_lc (own := [("act", 2)]) rfl sc_law_acts.nd (SI.sip (si_range1 (by rfl) nb.b_range (SE.sp (se_op or_add o2_add (SE.sp se_int) (SE.sp (se_cG c_law_draw hG hr (by decide) (by rfl) (sa_cons (se_var (pv 0)) (sa_cons se_int sa_nil)))))))) (blkOk_by (N := N_law_acts) (sc := (defScope s_law_acts)) (by decide +kernel)) (fun _ _ _ _ _ => (sg_name (pg_name (i := 2) sc_law_acts.nd rfl (by first | exact .inl rfl | exact .inr rfl)))) (fun _ _ _ _ _ => sts_nil) (fun _ _ _ _ _ => (SL.se (sl_lc (own := [("state", 3)]) rfl sc_law_acts.nd (SI.sip (si_range1 (by rfl) nb.b_range (sp_var (pv 1)))) (blkOk_by (N := N_law_acts) (sc := (relS _ (defScope s_law_acts))) (by decide +kernel)) (fun _ _ _ _ _ => (sg_name (pg_name (i := 3) sc_law_acts.nd rfl (by first | exact .inl rfl | exact .inr rfl)))) (fun _ _ _ _ _ => sts_nil) (fun _ _ _ _ _ => (se_cG c_law_frac hG hr (by decide) (by rfl) (sa_cons (se_op op_sub o2_sub (SE.sp (se_cG c_law_draw hG hr (by decide) (by rfl) (sa_cons (se_var (pv 0)) (sa_cons se_int sa_nil)))) (SE.sp se_int)) (sa_cons (se_op or_add o2_add (SE.sp se_int) (SE.sp (se_cG c_law_draw hG hr (by decide) (by rfl) (sa_cons (se_var (pv 0)) (sa_cons se_int sa_nil))))) sa_nil)))) (by decide)))) (by decide)))))
theorem ok_law_pick (c_law_draw : CalG P w K mg base 1 "_law_draw" f_law_draw) (nb : Nb mg) : ∀ f fd, Fun K "_law_pick" "_law_pick" s_law_pick f fd → FnG P w K mg base 2 f fd ["pot", "some"] (spF K f_law_pick) := fun f fd F => def_okG (m := b_law_pick) 2 2 F sc_law_pick rfl rfl fun cdv A outer s H E hcv hG hr =>
  (ss_one (s_ret (se_ix ix_seq o2_ix (sp_var (pv 1)) (SE.sp (se_cG c_law_draw hG hr (by decide) (by rfl) (sa_cons (se_var (pv 0)) (sa_cons (se_bi cr_len f1_len (by rfl) nb.b_len (by decide +kernel) (spa_cons (sp_var (pv 1)) spa_nil)) sa_nil)))) (fun _ _ => rfl))))
theorem ok_law_bent_1 (c_law_draw : CalG P w K mg base 1 "_law_draw" f_law_draw) (c_law_pick : CalG P w K mg base 2 "_law_pick" f_law_pick) (nb : Nb mg) (c_law_bent : CalG P w K mg base 3 "_law_bent" f_law_bent_0) : ∀ f fd, Fun K "_law_bent" "_law_bent" s_law_bent f fd → FnG P w K mg base 4 f fd ["pot", "value"] (spF K f_law_bent_1) := fun f fd F => def_okG (m := b_law_bent f_law_bent_0) 2 5 F sc_law_bent rfl rfl fun cdv A outer s H E hcv hG hr =>
  (ss_cons (s_if (SW.st (sw_or (st_not (st_val (SE.sp (se_bi cr_isi f1_isi (by rfl) nb.b_isinstance (by decide +kernel) (spa_cons (sp_var (pv 1)) (spa_cons (SE.sp (se_tup (sa_cons (se_ty (by rfl) nb.b_list (by decide +kernel)) (sa_cons (se_ty (by rfl) nb.b_tuple (by decide +kernel)) sa_nil)))) spa_nil)))))) (sw_or (st_cmp (op_eqD hr.units) c2_eq (SE.sp (se_bi cr_len f1_len (by rfl) nb.b_len (by decide +kernel) (spa_cons (sp_var (pv 1)) spa_nil))) (SE.sp se_int) (nomark _)) (sw_or1 (st_cmp (op_eqD hr.units) c2_eq (SE.sp (se_cG c_law_draw hG hr (by decide) (by rfl) (sa_cons (se_var (pv 0)) (sa_cons se_int sa_nil)))) (SE.sp se_int) (nomark _))))))
  (ss_one (s_ret (se_cG c_law_pick hG hr (by decide) (by rfl) (sa_cons (se_var (pv 0)) (sa_cons (SL.se (sl_lst (sa_cons se_non (sa_cons se_int (sa_cons se_int (sa_cons (se_neg (SE.sp se_int)) (sa_cons se_bl (sa_cons se_str (sa_cons (se_tup (sa_cons se_int (sa_cons se_int sa_nil))) (sa_cons (se_tup (sa_cons se_int (sa_cons se_int sa_nil))) (sa_cons (se_tup (sa_cons se_int (sa_cons se_int sa_nil))) (sa_cons (se_tup (sa_cons se_int (sa_cons se_int sa_nil))) (sa_cons (SL.se (sl_lst sa_nil)) (sa_cons (se_tup sa_nil) (sa_cons (se_tup (sa_cons se_int (sa_cons se_int sa_nil))) (sa_cons (se_tup (sa_cons (se_neg (SE.sp se_int)) (sa_cons se_int sa_nil))) sa_nil)))))))))))))))) sa_nil)))))
  ss_nil)
  (ss_cons (s_par (ps_par (by rfl) sc_law_bent.nd rfl rfl (by decide) rfl rfl (SA.pa (sa_cons (se_cG c_law_draw hG hr (by decide) (by rfl) (sa_cons (se_var (pv 0)) (sa_cons (se_bi cr_len f1_len (by rfl) nb.b_len (by decide +kernel) (spa_cons (sp_var (pv 1)) spa_nil)) sa_nil))) (sa_cons (se_cG c_law_draw hG hr (by decide) (by rfl) (sa_cons (se_var (pv 0)) (sa_cons se_int sa_nil))) sa_nil))) (by rfl)) (fun _ _ _ h => h))
  (ss_cons (s_if (st_cmp (op_eqD hr.units) c2_eq (sp_var (pv 3)) (SE.sp se_int) (nomark _))
  (ss_one (s_ret (se_op or_add o2_add (SE.sp (se_cut (sp_var (pv 1)) so_none (so_some (sp_var (pv 2))))) (SE.sp (se_cut (sp_var (pv 1)) (so_some (SE.sp (se_op or_add o2_add (sp_var (pv 2)) (SE.sp se_int)))) so_none)))))
  ss_nil)
  (ss_cons (s_if (st_cmp (op_eqD hr.units) c2_eq (sp_var (pv 3)) (SE.sp se_int) (nomark _))
  (ss_one (s_ret (se_op or_add o2_add (sp_var (pv 1)) (SE.sp (se_cut (sp_var (pv 1)) (so_some (sp_var (pv 2))) (so_some (SE.sp (se_op or_add o2_add (sp_var (pv 2)) (SE.sp se_int)))))))))
  ss_nil)
  (ss_cons (s_if (st_cmp (op_eqD hr.units) c2_eq (sp_var (pv 3)) (SE.sp se_int) (nomark _))
  (ss_one (s_ret (se_revA (sp_var (pv 1)))))
  ss_nil)
  (ss_cons (s_asg (ps_set (i := 4) sc_law_bent.nd rfl (by first | exact .inl rfl | exact .inr rfl) (SE.pe (se_cG c_law_bent hG hr (by decide) (by rfl) (sa_cons (se_var (pv 0)) (sa_cons (se_ix ix_seq o2_ix (sp_var (pv 1)) (sp_var (pv 2)) (fun _ _ => rfl)) sa_nil))))) (fun _ _ _ h => h))
  (ss_one (s_ret (se_op or_add o2_add (SE.sp (se_op or_add o2_add (SE.sp (se_cut (sp_var (pv 1)) so_none (so_some (sp_var (pv 2))))) (SE.sp (se_if (st_val (SE.sp (se_bi cr_isi f1_isi (by rfl) nb.b_isinstance (by decide +kernel) (spa_cons (sp_var (pv 1)) (spa_cons (SE.sp (se_ty (by rfl) nb.b_list (by decide +kernel))) spa_nil))))) (SL.se (sl_lst (sa_cons (se_var (pv 4)) sa_nil))) (se_tup (sa_cons (se_var (pv 4)) sa_nil)))))) (SE.sp (se_cut (sp_var (pv 1)) (so_some (SE.sp (se_op or_add o2_add (sp_var (pv 2)) (SE.sp se_int)))) so_none)))))))))))
theorem ok_law_bent_2 (c_law_draw : CalG P w K mg base 1 "_law_draw" f_law_draw) (c_law_pick : CalG P w K mg base 2 "_law_pick" f_law_pick) (nb : Nb mg) (c_law_bent : CalG P w K mg base 4 "_law_bent" f_law_bent_1) : ∀ f fd, Fun K "_law_bent" "_law_bent" s_law_bent f fd → FnG P w K mg base 5 f fd ["pot", "value"] (spF K f_law_bent_2) := fun f fd F => def_okG (m := b_law_bent f_law_bent_1) 2 5 F sc_law_bent rfl rfl fun cdv A outer s H E hcv hG hr =>
  (ss_cons (s_if (SW.st (sw_or (st_not (st_val (SE.sp (se_bi cr_isi f1_isi (by rfl) nb.b_isinstance (by decide +kernel) (spa_cons (sp_var (pv 1)) (spa_cons (SE.sp (se_tup (sa_cons (se_ty (by rfl) nb.b_list (by decide +kernel)) (sa_cons (se_ty (by rfl) nb.b_tuple (by decide +kernel)) sa_nil)))) spa_nil)))))) (sw_or (st_cmp (op_eqD hr.units) c2_eq (SE.sp (se_bi cr_len f1_len (by rfl) nb.b_len (by decide +kernel) (spa_cons (sp_var (pv 1)) spa_nil))) (SE.sp se_int) (nomark _)) (sw_or1 (st_cmp (op_eqD hr.units) c2_eq (SE.sp (se_cG c_law_draw hG hr (by decide) (by rfl) (sa_cons (se_var (pv 0)) (sa_cons se_int sa_nil)))) (SE.sp se_int) (nomark _))))))
  (ss_one (s_ret (se_cG c_law_pick hG hr (by decide) (by rfl) (sa_cons (se_var (pv 0)) (sa_cons (SL.se (sl_lst (sa_cons se_non (sa_cons se_int (sa_cons se_int (sa_cons (se_neg (SE.sp se_int)) (sa_cons se_bl (sa_cons se_str (sa_cons (se_tup (sa_cons se_int (sa_cons se_int sa_nil))) (sa_cons (se_tup (sa_cons se_int (sa_cons se_int sa_nil))) (sa_cons (se_tup (sa_cons se_int (sa_cons se_int sa_nil))) (sa_cons (se_tup (sa_cons se_int (sa_cons se_int sa_nil))) (sa_cons (SL.se (sl_lst sa_nil)) (sa_cons (se_tup sa_nil) (sa_cons (se_tup (sa_cons se_int (sa_cons se_int sa_nil))) (sa_cons (se_tup (sa_cons (se_neg (SE.sp se_int)) (sa_cons se_int sa_nil))) sa_nil)))))))))))))))) sa_nil)))))
  ss_nil)
  (ss_cons (s_par (ps_par (by rfl) sc_law_bent.nd rfl rfl (by decide) rfl rfl (SA.pa (sa_cons (se_cG c_law_draw hG hr (by decide) (by rfl) (sa_cons (se_var (pv 0)) (sa_cons (se_bi cr_len f1_len (by rfl) nb.b_len (by decide +kernel) (spa_cons (sp_var (pv 1)) spa_nil)) sa_nil))) (sa_cons (se_cG c_law_draw hG hr (by decide) (by rfl) (sa_cons (se_var (pv 0)) (sa_cons se_int sa_nil))) sa_nil))) (by rfl)) (fun _ _ _ h => h))
  (ss_cons (s_if (st_cmp (op_eqD hr.units) c2_eq (sp_var (pv 3)) (SE.sp se_int) (nomark _))
  (ss_one (s_ret (se_op or_add o2_add (SE.sp (se_cut (sp_var (pv 1)) so_none (so_some (sp_var (pv 2))))) (SE.sp (se_cut (sp_var (pv 1)) (so_some (SE.sp (se_op or_add o2_add (sp_var (pv 2)) (SE.sp se_int)))) so_none)))))
  ss_nil)
  (ss_cons (s_if (st_cmp (op_eqD hr.units) c2_eq (sp_var (pv 3)) (SE.sp se_int) (nomark _))
  (ss_one (s_ret (se_op or_add o2_add (sp_var (pv 1)) (SE.sp (se_cut (sp_var (pv 1)) (so_some (sp_var (pv 2))) (so_some (SE.sp (se_op or_add o2_add (sp_var (pv 2)) (SE.sp se_int)))))))))
  ss_nil)
  (ss_cons (s_if (st_cmp (op_eqD hr.units) c2_eq (sp_var (pv 3)) (SE.sp se_int) (nomark _))
  (ss_one (s_ret (se_revA (sp_var (pv 1)))))
  ss_nil)
  (ss_cons (s_asg (ps_set (i := 4) sc_law_bent.nd rfl (by first | exact .inl rfl | exact .inr rfl) (SE.pe (se_cG c_law_bent hG hr (by decide) (by rfl) (sa_cons (se_var (pv 0)) (sa_cons (se_ix ix_seq o2_ix (sp_var (pv 1)) (sp_var (pv 2)) (fun _ _ => rfl)) sa_nil))))) (fun _ _ _ h => h))
  (ss_one (s_ret (se_op or_add o2_add (SE.sp (se_op or_add o2_add (SE.sp (se_cut (sp_var (pv 1)) so_none (so_some (sp_var (pv 2))))) (SE.sp (se_if (st_val (SE.sp (se_bi cr_isi f1_isi (by rfl) nb.b_isinstance (by decide +kernel) (spa_cons (sp_var (pv 1)) (spa_cons (SE.sp (se_ty (by rfl) nb.b_list (by decide +kernel))) spa_nil))))) (SL.se (sl_lst (sa_cons (se_var (pv 4)) sa_nil))) (se_tup (sa_cons (se_var (pv 4)) sa_nil)))))) (SE.sp (se_cut (sp_var (pv 1)) (so_some (SE.sp (se_op or_add o2_add (sp_var (pv 2)) (SE.sp se_int)))) so_none)))))))))))
theorem ok_law_bent_3 (c_law_draw : CalG P w K mg base 1 "_law_draw" f_law_draw) (c_law_pick : CalG P w K mg base 2 "_law_pick" f_law_pick) (nb : Nb mg) (c_law_bent : CalG P w K mg base 5 "_law_bent" f_law_bent_2) : ∀ f fd, Fun K "_law_bent" "_law_bent" s_law_bent f fd → FnG P w K mg base 6 f fd ["pot", "value"] (spF K f_law_bent_3) := fun f fd F => def_okG (m := b_law_bent f_law_bent_2) 2 5 F sc_law_bent rfl rfl fun cdv A outer s H E hcv hG hr =>
  (ss_cons (s_if (SW.st (sw_or (st_not (st_val (SE.sp (se_bi cr_isi f1_isi (by rfl) nb.b_isinstance (by decide +kernel) (spa_cons (sp_var (pv 1)) (spa_cons (SE.sp (se_tup (sa_cons (se_ty (by rfl) nb.b_list (by decide +kernel)) (sa_cons (se_ty (by rfl) nb.b_tuple (by decide +kernel)) sa_nil)))) spa_nil)))))) (sw_or (st_cmp (op_eqD hr.units) c2_eq (SE.sp (se_bi cr_len f1_len (by rfl) nb.b_len (by decide +kernel) (spa_cons (sp_var (pv 1)) spa_nil))) (SE.sp se_int) (nomark _)) (sw_or1 (st_cmp (op_eqD hr.units) c2_eq (SE.sp (se_cG c_law_draw hG hr (by decide) (by rfl) (sa_cons (se_var (pv 0)) (sa_cons se_int sa_nil)))) (SE.sp se_int) (nomark _))))))
  (ss_one (s_ret (se_cG c_law_pick hG hr (by decide) (by rfl) (sa_cons (se_var (pv 0)) (sa_cons (SL.se (sl_lst (sa_cons se_non (sa_cons se_int (sa_cons se_int (sa_cons (se_neg (SE.sp se_int)) (sa_cons se_bl (sa_cons se_str (sa_cons (se_tup (sa_cons se_int (sa_cons se_int sa_nil))) (sa_cons (se_tup (sa_cons se_int (sa_cons se_int sa_nil))) (sa_cons (se_tup (sa_cons se_int (sa_cons se_int sa_nil))) (sa_cons (se_tup (sa_cons se_int (sa_cons se_int sa_nil))) (sa_cons (SL.se (sl_lst sa_nil)) (sa_cons (se_tup sa_nil) (sa_cons (se_tup (sa_cons se_int (sa_cons se_int sa_nil))) (sa_cons (se_tup (sa_cons (se_neg (SE.sp se_int)) (sa_cons se_int sa_nil))) sa_nil)))))))))))))))) sa_nil)))))
  ss_nil)
  (ss_cons (s_par (ps_par (by rfl) sc_law_bent.nd rfl rfl (by decide) rfl rfl (SA.pa (sa_cons (se_cG c_law_draw hG hr (by decide) (by rfl) (sa_cons (se_var (pv 0)) (sa_cons (se_bi cr_len f1_len (by rfl) nb.b_len (by decide +kernel) (spa_cons (sp_var (pv 1)) spa_nil)) sa_nil))) (sa_cons (se_cG c_law_draw hG hr (by decide) (by rfl) (sa_cons (se_var (pv 0)) (sa_cons se_int sa_nil))) sa_nil))) (by rfl)) (fun _ _ _ h => h))
  (ss_cons (s_if (st_cmp (op_eqD hr.units) c2_eq (sp_var (pv 3)) (SE.sp se_int) (nomark _))
  (ss_one (s_ret (se_op or_add o2_add (SE.sp (se_cut (sp_var (pv 1)) so_none (so_some (sp_var (pv 2))))) (SE.sp (se_cut (sp_var (pv 1)) (so_some (SE.sp (se_op or_add o2_add (sp_var (pv 2)) (SE.sp se_int)))) so_none)))))
  ss_nil)
  (ss_cons (s_if (st_cmp (op_eqD hr.units) c2_eq (sp_var (pv 3)) (SE.sp se_int) (nomark _))
  (ss_one (s_ret (se_op or_add o2_add (sp_var (pv 1)) (SE.sp (se_cut (sp_var (pv 1)) (so_some (sp_var (pv 2))) (so_some (SE.sp (se_op or_add o2_add (sp_var (pv 2)) (SE.sp se_int)))))))))
  ss_nil)
  (ss_cons (s_if (st_cmp (op_eqD hr.units) c2_eq (sp_var (pv 3)) (SE.sp se_int) (nomark _))
  (ss_one (s_ret (se_revA (sp_var (pv 1)))))
  ss_nil)
  (ss_cons (s_asg (ps_set (i := 4) sc_law_bent.nd rfl (by first | exact .inl rfl | exact .inr rfl) (SE.pe (se_cG c_law_bent hG hr (by decide) (by rfl) (sa_cons (se_var (pv 0)) (sa_cons (se_ix ix_seq o2_ix (sp_var (pv 1)) (sp_var (pv 2)) (fun _ _ => rfl)) sa_nil))))) (fun _ _ _ h => h))
  (ss_one (s_ret (se_op or_add o2_add (SE.sp (se_op or_add o2_add (SE.sp (se_cut (sp_var (pv 1)) so_none (so_some (sp_var (pv 2))))) (SE.sp (se_if (st_val (SE.sp (se_bi cr_isi f1_isi (by rfl) nb.b_isinstance (by decide +kernel) (spa_cons (sp_var (pv 1)) (spa_cons (SE.sp (se_ty (by rfl) nb.b_list (by decide +kernel))) spa_nil))))) (SL.se (sl_lst (sa_cons (se_var (pv 4)) sa_nil))) (se_tup (sa_cons (se_var (pv 4)) sa_nil)))))) (SE.sp (se_cut (sp_var (pv 1)) (so_some (SE.sp (se_op or_add o2_add (sp_var (pv 2)) (SE.sp se_int)))) so_none)))))))))))
theorem ok_law_bent_4 (c_law_draw : CalG P w K mg base 1 "_law_draw" f_law_draw) (c_law_pick : CalG P w K mg base 2 "_law_pick" f_law_pick) (nb : Nb mg) (c_law_bent : CalG P w K mg base 6 "_law_bent" f_law_bent_3) : ∀ f fd, Fun K "_law_bent" "_law_bent" s_law_bent f fd → FnG P w K mg base 7 f fd ["pot", "value"] (spF K f_law_bent_4) := fun f fd F => def_okG (m := b_law_bent f_law_bent_3) 2 5 F sc_law_bent rfl rfl fun cdv A outer s H E hcv hG hr =>
  (ss_cons (s_if (SW.st (sw_or (st_not (st_val (SE.sp (se_bi cr_isi f1_isi (by rfl) nb.b_isinstance (by decide +kernel) (spa_cons (sp_var (pv 1)) (spa_cons (SE.sp (se_tup (sa_cons (se_ty (by rfl) nb.b_list (by decide +kernel)) (sa_cons (se_ty (by rfl) nb.b_tuple (by decide +kernel)) sa_nil)))) spa_nil)))))) (sw_or (st_cmp (op_eqD hr.units) c2_eq (SE.sp (se_bi cr_len f1_len (by rfl) nb.b_len (by decide +kernel) (spa_cons (sp_var (pv 1)) spa_nil))) (SE.sp se_int) (nomark _)) (sw_or1 (st_cmp (op_eqD hr.units) c2_eq (SE.sp (se_cG c_law_draw hG hr (by decide) (by rfl) (sa_cons (se_var (pv 0)) (sa_cons se_int sa_nil)))) (SE.sp se_int) (nomark _))))))
  (ss_one (s_ret (se_cG c_law_pick hG hr (by decide) (by rfl) (sa_cons (se_var (pv 0)) (sa_cons (SL.se (sl_lst (sa_cons se_non (sa_cons se_int (sa_cons se_int (sa_cons (se_neg (SE.sp se_int)) (sa_cons se_bl (sa_cons se_str (sa_cons (se_tup (sa_cons se_int (sa_cons se_int sa_nil))) (sa_cons (se_tup (sa_cons se_int (sa_cons se_int sa_nil))) (sa_cons (se_tup (sa_cons se_int (sa_cons se_int sa_nil))) (sa_cons (se_tup (sa_cons se_int (sa_cons se_int sa_nil))) (sa_cons (SL.se (sl_lst sa_nil)) (sa_cons (se_tup sa_nil) (sa_cons (se_tup (sa_cons se_int (sa_cons se_int sa_nil))) (sa_cons (se_tup (sa_cons (se_neg (SE.sp se_int)) (sa_cons se_int sa_nil))) sa_nil)))))))))))))))) sa_nil)))))
  ss_nil)
  (ss_cons (s_par (ps_par (by rfl) sc_law_bent.nd rfl rfl (by decide) rfl rfl (SA.pa (sa_cons (se_cG c_law_draw hG hr (by decide) (by rfl) (sa_cons (se_var (pv 0)) (sa_cons (se_bi cr_len f1_len (by rfl) nb.b_len (by decide +kernel) (spa_cons (sp_var (pv 1)) spa_nil)) sa_nil))) (sa_cons (se_cG c_law_draw hG hr (by decide) (by rfl) (sa_cons (se_var (pv 0)) (sa_cons se_int sa_nil))) sa_nil))) (by rfl)) (fun _ _ _ h => h))
  (ss_cons (s_if (st_cmp (op_eqD hr.units) c2_eq (sp_var (pv 3)) (SE.sp se_int) (nomark _))
  (ss_one (s_ret (se_op or_add o2_add (SE.sp (se_cut (sp_var (pv 1)) so_none (so_some (sp_var (pv 2))))) (SE.sp (se_cut (sp_var (pv 1)) (so_some (SE.sp (se_op or_add o2_add (sp_var (pv 2)) (SE.sp se_int)))) so_none)))))
  ss_nil)
  (ss_cons (s_if (st_cmp (op_eqD hr.units) c2_eq (sp_var (pv 3)) (SE.sp se_int) (nomark _))
  (ss_one (s_ret (se_op or_add o2_add (sp_var (pv 1)) (SE.sp (se_cut (sp_var (pv 1)) (so_some (sp_var (pv 2))) (so_some (SE.sp (se_op or_add o2_add (sp_var (pv 2)) (SE.sp se_int)))))))))
  ss_nil)
  (ss_cons (s_if (st_cmp (op_eqD hr.units) c2_eq (sp_var (pv 3)) (SE.sp se_int) (nomark _))
  (ss_one (s_ret (se_revA (sp_var (pv 1)))))
  ss_nil)
  (ss_cons (s_asg (ps_set (i := 4) sc_law_bent.nd rfl (by first | exact .inl rfl | exact .inr rfl) (SE.pe (se_cG c_law_bent hG hr (by decide) (by rfl) (sa_cons (se_var (pv 0)) (sa_cons (se_ix ix_seq o2_ix (sp_var (pv 1)) (sp_var (pv 2)) (fun _ _ => rfl)) sa_nil))))) (fun _ _ _ h => h))
  (ss_one (s_ret (se_op or_add o2_add (SE.sp (se_op or_add o2_add (SE.sp (se_cut (sp_var (pv 1)) so_none (so_some (sp_var (pv 2))))) (SE.sp (se_if (st_val (SE.sp (se_bi cr_isi f1_isi (by rfl) nb.b_isinstance (by decide +kernel) (spa_cons (sp_var (pv 1)) (spa_cons (SE.sp (se_ty (by rfl) nb.b_list (by decide +kernel))) spa_nil))))) (SL.se (sl_lst (sa_cons (se_var (pv 4)) sa_nil))) (se_tup (sa_cons (se_var (pv 4)) sa_nil)))))) (SE.sp (se_cut (sp_var (pv 1)) (so_some (SE.sp (se_op or_add o2_add (sp_var (pv 2)) (SE.sp se_int)))) so_none)))))))))))
theorem ok_law_bent (c_law_draw : CalG P w K mg base 1 "_law_draw" f_law_draw) (c_law_pick : CalG P w K mg base 2 "_law_pick" f_law_pick) (nb : Nb mg) (c_law_bent : CalG P w K mg base 7 "_law_bent" f_law_bent_4) : ∀ f fd, Fun K "_law_bent" "_law_bent" s_law_bent f fd → FnG P w K mg base 8 f fd ["pot", "value"] (spF K f_law_bent) := fun f fd F => def_okG (m := b_law_bent f_law_bent_4) 2 5 F sc_law_bent rfl rfl fun cdv A outer s H E hcv hG hr =>
  (ss_cons (s_if (SW.st (sw_or (st_not (st_val (SE.sp (se_bi cr_isi f1_isi (by rfl) nb.b_isinstance (by decide +kernel) (spa_cons (sp_var (pv 1)) (spa_cons (SE.sp (se_tup (sa_cons (se_ty (by rfl) nb.b_list (by decide +kernel)) (sa_cons (se_ty (by rfl) nb.b_tuple (by decide +kernel)) sa_nil)))) spa_nil)))))) (sw_or (st_cmp (op_eqD hr.units) c2_eq (SE.sp (se_bi cr_len f1_len (by rfl) nb.b_len (by decide +kernel) (spa_cons (sp_var (pv 1)) spa_nil))) (SE.sp se_int) (nomark _)) (sw_or1 (st_cmp (op_eqD hr.units) c2_eq (SE.sp (se_cG c_law_draw hG hr (by decide) (by rfl) (sa_cons (se_var (pv 0)) (sa_cons se_int sa_nil)))) (SE.sp se_int) (nomark _))))))
  (ss_one (s_ret (se_cG c_law_pick hG hr (by decide) (by rfl) (sa_cons (se_var (pv 0)) (sa_cons (SL.se (sl_lst (sa_cons se_non (sa_cons se_int (sa_cons se_int (sa_cons (se_neg (SE.sp se_int)) (sa_cons se_bl (sa_cons se_str (sa_cons (se_tup (sa_cons se_int (sa_cons se_int sa_nil))) (sa_cons (se_tup (sa_cons se_int (sa_cons se_int sa_nil))) (sa_cons (se_tup (sa_cons se_int (sa_cons se_int sa_nil))) (sa_cons (se_tup (sa_cons se_int (sa_cons se_int sa_nil))) (sa_cons (SL.se (sl_lst sa_nil)) (sa_cons (se_tup sa_nil) (sa_cons (se_tup (sa_cons se_int (sa_cons se_int sa_nil))) (sa_cons (se_tup (sa_cons (se_neg (SE.sp se_int)) (sa_cons se_int sa_nil))) sa_nil)))))))))))))))) sa_nil)))))
  ss_nil)
  (ss_cons (s_par (ps_par (by rfl) sc_law_bent.nd rfl rfl (by decide) rfl rfl (SA.pa (sa_cons (se_cG c_law_draw hG hr (by decide) (by rfl) (sa_cons (se_var (pv 0)) (sa_cons (se_bi cr_len f1_len (by rfl) nb.b_len (by decide +kernel) (spa_cons (sp_var (pv 1)) spa_nil)) sa_nil))) (sa_cons (se_cG c_law_draw hG hr (by decide) (by rfl) (sa_cons (se_var (pv 0)) (sa_cons se_int sa_nil))) sa_nil))) (by rfl)) (fun _ _ _ h => h))
  (ss_cons (s_if (st_cmp (op_eqD hr.units) c2_eq (sp_var (pv 3)) (SE.sp se_int) (nomark _))
  (ss_one (s_ret (se_op or_add o2_add (SE.sp (se_cut (sp_var (pv 1)) so_none (so_some (sp_var (pv 2))))) (SE.sp (se_cut (sp_var (pv 1)) (so_some (SE.sp (se_op or_add o2_add (sp_var (pv 2)) (SE.sp se_int)))) so_none)))))
  ss_nil)
  (ss_cons (s_if (st_cmp (op_eqD hr.units) c2_eq (sp_var (pv 3)) (SE.sp se_int) (nomark _))
  (ss_one (s_ret (se_op or_add o2_add (sp_var (pv 1)) (SE.sp (se_cut (sp_var (pv 1)) (so_some (sp_var (pv 2))) (so_some (SE.sp (se_op or_add o2_add (sp_var (pv 2)) (SE.sp se_int)))))))))
  ss_nil)
  (ss_cons (s_if (st_cmp (op_eqD hr.units) c2_eq (sp_var (pv 3)) (SE.sp se_int) (nomark _))
  (ss_one (s_ret (se_revA (sp_var (pv 1)))))
  ss_nil)
  (ss_cons (s_asg (ps_set (i := 4) sc_law_bent.nd rfl (by first | exact .inl rfl | exact .inr rfl) (SE.pe (se_cG c_law_bent hG hr (by decide) (by rfl) (sa_cons (se_var (pv 0)) (sa_cons (se_ix ix_seq o2_ix (sp_var (pv 1)) (sp_var (pv 2)) (fun _ _ => rfl)) sa_nil))))) (fun _ _ _ h => h))
  (ss_one (s_ret (se_op or_add o2_add (SE.sp (se_op or_add o2_add (SE.sp (se_cut (sp_var (pv 1)) so_none (so_some (sp_var (pv 2))))) (SE.sp (se_if (st_val (SE.sp (se_bi cr_isi f1_isi (by rfl) nb.b_isinstance (by decide +kernel) (spa_cons (sp_var (pv 1)) (spa_cons (SE.sp (se_ty (by rfl) nb.b_list (by decide +kernel))) spa_nil))))) (SL.se (sl_lst (sa_cons (se_var (pv 4)) sa_nil))) (se_tup (sa_cons (se_var (pv 4)) sa_nil)))))) (SE.sp (se_cut (sp_var (pv 1)) (so_some (SE.sp (se_op or_add o2_add (sp_var (pv 2)) (SE.sp se_int)))) so_none)))))))))))
theorem ok_law_is_list (nb : Nb mg) : ∀ f fd, Fun K "_law_is_list" "_law_is_list" s_law_is_list f fd → FnG P w K mg base 1 f fd ["value"] (spF K f_law_is_list) := fun f fd F => def_okG (m := b_law_is_list) 1 1 F sc_law_is_list rfl rfl fun cdv A outer s H E hcv hG hr =>
  (ss_one (s_ret (se_bi cr_isi f1_isi (by rfl) nb.b_isinstance (by decide +kernel) (spa_cons (sp_var (pv 0)) (spa_cons (SE.sp (se_tup (sa_cons (se_ty (by rfl) nb.b_list (by decide +kernel)) (sa_cons (se_ty (by rfl) nb.b_tuple (by decide +kernel)) sa_nil)))) spa_nil)))))
theorem ok_law_is_fraction (c_law_frac : CalG P w K mg base 1 "_law_frac" f_law_frac) (nb : Nb mg) : ∀ f fd, Fun K "_law_is_fraction" "_law_is_fraction" s_law_is_fraction f fd → FnG P w K mg base 2 f fd ["value"] (spF K f_law_is_fraction) := fun f fd F => def_okG (m := b_law_is_fraction) 1 2 F sc_law_is_fraction rfl rfl fun cdv A outer s H E hcv hG hr =>
  (ss_cons (s_if (SW.st (sw_or (st_not (st_val (SE.sp (se_bi cr_isi f1_isi (by rfl) nb.b_isinstance (by decide +kernel) (spa_cons (sp_var (pv 0)) (spa_cons (SE.sp (se_ty (by rfl) nb.b_tuple (by decide +kernel))) spa_nil)))))) (sw_or (st_cmp (op_neD hr.units) c2_ne (SE.sp (se_bi cr_len f1_len (by rfl) nb.b_len (by decide +kernel) (spa_cons (sp_var (pv 0)) spa_nil))) (SE.sp se_int) (nomark _)) (sw_or1 (st_not (st_val (SE.sp (se_bi (cr_all rfl) f1_all (by rfl) nb.b_all (by decide +kernel) (spa_cons (SE.sp (SL.se (sl_lc (own := [("one", 1)]) rfl sc_law_is_fraction.nd (sip_seq (sp_var (pv 0))) (blkOk_by (N := N_law_is_fraction) (sc := (defScope s_law_is_fraction)) (by decide +kernel)) (fun _ _ _ _ _ => (sg_name (pg_name (i := 1) sc_law_is_fraction.nd rfl (by first | exact .inl rfl | exact .inr rfl)))) (fun _ _ _ _ _ => sts_nil) (fun _ _ _ _ _ => (se_and (se_bi cr_isi f1_isi (by rfl) nb.b_isinstance (by decide +kernel) (spa_cons (sp_var (pv 1)) (spa_cons (SE.sp (se_ty (by rfl) nb.b_int (by decide +kernel))) spa_nil))) (se_one (se_not (se_bi cr_isi f1_isi (by rfl) nb.b_isinstance (by decide +kernel) (spa_cons (sp_var (pv 1)) (spa_cons (SE.sp (se_ty (by rfl) nb.b_bool (by decide +kernel))) spa_nil))))))) (by decide)))) spa_nil)))))))))
  (ss_one (s_ret se_bl))
  ss_nil)
  (ss_one (s_ret (se_and (se_cmp op_gt c2_int (SE.sp (se_ix ix_seq o2_ix (sp_var (pv 0)) (SE.sp se_int) (fun _ _ => rfl))) (SE.sp se_int) (nomark _)) (se_one (se_cmp (op_eqD hr.units) c2_eq (SE.sp (se_cG c_law_frac hG hr (by decide) (by rfl) (sa_cons (se_ix ix_seq o2_ix (sp_var (pv 0)) (SE.sp se_int) (fun _ _ => rfl)) (sa_cons (se_ix ix_seq o2_ix (sp_var (pv 0)) (SE.sp se_int) (fun _ _ => rfl)) sa_nil)))) (sp_var (pv 0)) (nomark _)))))))
theorem ok_law_plus (c_law_frac : CalG P w K mg base 1 "_law_frac" f_law_frac) : ∀ f fd, Fun K "_law_plus" "_law_plus" s_law_plus f fd → FnG P w K mg base 2 f fd ["one", "late"] (spF K f_law_plus) := fun f fd F => def_okG (m := b_law_plus) 2 2 F sc_law_plus rfl rfl fun cdv A outer s H E hcv hG hr =>
  (ss_one (s_ret (se_cG c_law_frac hG hr (by decide) (by rfl) (sa_cons (se_op or_add o2_add (SE.sp (se_op or_mul o2_mul (SE.sp (se_ix ix_seq o2_ix (sp_var (pv 0)) (SE.sp se_int) (fun _ _ => rfl))) (SE.sp (se_ix ix_seq o2_ix (sp_var (pv 1)) (SE.sp se_int) (fun _ _ => rfl))))) (SE.sp (se_op or_mul o2_mul (SE.sp (se_ix ix_seq o2_ix (sp_var (pv 1)) (SE.sp se_int) (fun _ _ => rfl))) (SE.sp (se_ix ix_seq o2_ix (sp_var (pv 0)) (SE.sp se_int) (fun _ _ => rfl)))))) (sa_cons (se_op or_mul o2_mul (SE.sp (se_ix ix_seq o2_ix (sp_var (pv 0)) (SE.sp se_int) (fun _ _ => rfl))) (SE.sp (se_ix ix_seq o2_ix (sp_var (pv 1)) (SE.sp se_int) (fun _ _ => rfl)))) sa_nil)))))
theorem ok_law_sum (c_law_plus : CalG P w K mg base 2 "_law_plus" f_law_plus) : ∀ f fd, Fun K "_law_sum" "_law_sum" s_law_sum f fd → FnG P w K mg base 3 f fd ["some"] (spF K f_law_sum) := fun f fd F => def_okG (m := b_law_sum) 1 3 F sc_law_sum rfl rfl fun cdv A outer s H E hcv hG hr =>
  (ss_cons (s_asg (ps_set (i := 1) sc_law_sum.nd rfl (by first | exact .inl rfl | exact .inr rfl) (SE.pe (se_tup (sa_cons se_int (sa_cons se_int sa_nil))))) (fun _ _ _ h => h))
  (ss_cons (s_for PassesOwn.never rfl (si_seq (se_var (pv 0))) (sg_name (pg_name (i := 2) sc_law_sum.nd rfl (by first | exact .inl rfl | exact .inr rfl)))
  (ss_one (s_asg (ps_set (i := 1) sc_law_sum.nd rfl (by first | exact .inl rfl | exact .inr rfl) (SE.pe (se_cG c_law_plus hG hr (by decide) (by rfl) (sa_cons (se_var (pv 1)) (sa_cons (se_var (pv 2)) sa_nil))))) (fun _ _ _ h => h))))
  (ss_one (s_ret (se_var (pv 1))))))
theorem ok_law_is_lot (c_law_is_fraction : CalG P w K mg base 2 "_law_is_fraction" f_law_is_fraction) (c_law_sum : CalG P w K mg base 3 "_law_sum" f_law_sum) (nb : Nb mg) : ∀ f fd, Fun K "_law_is_lot" "_law_is_lot" s_law_is_lot f fd → FnG P w K mg base 4 f fd ["value", "most"] (spF K f_law_is_lot) := fun f fd F => def_okG (m := b_law_is_lot) 2 3 F sc_law_is_lot rfl rfl fun cdv A outer s H E hcv hG hr =>
  (ss_cons (s_if (SW.st (sw_or (st_not (st_val (SE.sp (se_bi cr_isi f1_isi (by rfl) nb.b_isinstance (by decide +kernel) (spa_cons (sp_var (pv 0)) (spa_cons (SE.sp (se_ty (by rfl) nb.b_tuple (by decide +kernel))) spa_nil)))))) (sw_or (st_not (st_chain op_le op_le c2_int c2_int (SE.sp se_int) (SE.sp (se_bi cr_len f1_len (by rfl) nb.b_len (by decide +kernel) (spa_cons (sp_var (pv 0)) spa_nil))) (sp_var (pv 1)))) (sw_or1 (st_not (st_val (SE.sp (se_bi (cr_all rfl) f1_all (by rfl) nb.b_all (by decide +kernel) (spa_cons (SE.sp (SL.se (sl_lc (own := [("one", 2)]) rfl sc_law_is_lot.nd (sip_seq (sp_var (pv 0))) (blkOk_by (N := N_law_is_lot) (sc := (defScope s_law_is_lot)) (by decide +kernel)) (fun _ _ _ _ _ => (sg_name (pg_name (i := 2) sc_law_is_lot.nd rfl (by first | exact .inl rfl | exact .inr rfl)))) (fun _ _ _ _ _ => sts_nil) (fun _ _ _ _ _ => (se_and (se_cG c_law_is_fraction hG hr (by decide) (by rfl) (sa_cons (se_var (pv 2)) sa_nil)) (se_one (se_cmp op_ge c2_int (SE.sp (se_ix ix_seq o2_ix (sp_var (pv 2)) (SE.sp se_int) (fun _ _ => rfl))) (SE.sp se_int) (nomark _))))) (by decide)))) spa_nil)))))))))
  (ss_one (s_ret se_bl))
  ss_nil)
  (ss_one (s_ret (se_cmp (op_eqD hr.units) c2_eq (SE.sp (se_cG c_law_sum hG hr (by decide) (by rfl) (sa_cons (se_var (pv 0)) sa_nil))) (SE.sp (se_tup (sa_cons se_int (sa_cons se_int sa_nil)))) (nomark _)))))
theorem ok_law_is_look (c_law_is_list : CalG P w K mg base 1 "_law_is_list" f_law_is_list) (c_law_is_lot : CalG P w K mg base 4 "_law_is_lot" f_law_is_lot) (nb : Nb mg) : ∀ f fd, Fun K "_law_is_look" "_law_is_look" s_law_is_look f fd → FnG P w K mg base 5 f fd ["value"] (spF K f_law_is_look) := fun f fd F => def_okG (m := b_law_is_look) 1 2 F sc_law_is_look rfl rfl fun cdv A outer s H E hcv hG hr =>
  (ss_cons (s_if (SW.st (sw_or (st_not (st_val (SE.sp (se_cG c_law_is_list hG hr (by decide) (by rfl) (sa_cons (se_var (pv 0)) sa_nil))))) (sw_or (st_not (st_chain op_le op_le c2_int c2_int (SE.sp se_int) (SE.sp (se_bi cr_len f1_len (by rfl) nb.b_len (by decide +kernel) (spa_cons (sp_var (pv 0)) spa_nil))) (SE.sp se_int))) (sw_or1 (st_not (st_val (SE.sp (se_bi (cr_all rfl) f1_all (by rfl) nb.b_all (by decide +kernel) (spa_cons (SE.sp (SL.se (sl_lc (own := [("lot", 1)]) rfl sc_law_is_look.nd (sip_seq (sp_var (pv 0))) (blkOk_by (N := N_law_is_look) (sc := (defScope s_law_is_look)) (by decide +kernel)) (fun _ _ _ _ _ => (sg_name (pg_name (i := 1) sc_law_is_look.nd rfl (by first | exact .inl rfl | exact .inr rfl)))) (fun _ _ _ _ _ => sts_nil) (fun _ _ _ _ _ => (se_cG c_law_is_lot hG hr (by decide) (by rfl) (sa_cons (se_var (pv 1)) (sa_cons se_int sa_nil)))) (by decide)))) spa_nil)))))))))
  (ss_one (s_ret se_bl))
  ss_nil)
  (ss_one (s_ret (se_bi (cr_all rfl) f1_all (by rfl) nb.b_all (by decide +kernel) (spa_cons (SE.sp (SL.se (sl_lc (own := [("lot", 1)]) rfl sc_law_is_look.nd (sip_seq (sp_var (pv 0))) (blkOk_by (N := N_law_is_look) (sc := (defScope s_law_is_look)) (by decide +kernel)) (fun _ _ _ _ _ => (sg_name (pg_name (i := 1) sc_law_is_look.nd rfl (by first | exact .inl rfl | exact .inr rfl)))) (fun _ _ _ _ _ => sts_nil) (fun _ _ _ _ _ => (se_cmp (op_eqD hr.units) c2_eq (SE.sp (se_bi cr_len f1_len (by rfl) nb.b_len (by decide +kernel) (spa_cons (sp_var (pv 1)) spa_nil))) (SE.sp (se_bi cr_len f1_len (by rfl) nb.b_len (by decide +kernel) (spa_cons (SE.sp (se_ix ix_seq o2_ix (sp_var (pv 0)) (SE.sp se_int) (fun _ _ => rfl))) spa_nil))) (nomark _))) (by decide)))) spa_nil)))))
theorem ok_is_list (nb : Nb mg) : ∀ f fd, Fun K "is_list" "is_list" s_is_list f fd → FnG P w K mg base 1 f fd ["value"] (spF K f_is_list) := fun f fd F => def_okG (m := b_is_list) 1 1 F sc_is_list rfl rfl fun cdv A outer s H E hcv hG hr =>
  (ss_one (s_ret (se_bi cr_isi f1_isi (by rfl) nb.b_isinstance (by decide +kernel) (spa_cons (sp_var (pv 0)) (spa_cons (SE.sp (se_tup (sa_cons (se_ty (by rfl) nb.b_list (by decide +kernel)) (sa_cons (se_ty (by rfl) nb.b_tuple (by decide +kernel)) sa_nil)))) spa_nil)))))
theorem ok_is_integer (nb : Nb mg) : ∀ f fd, Fun K "is_integer" "is_integer" s_is_integer f fd → FnG P w K mg base 1 f fd ["value"] (spF K f_is_integer) := fun f fd F => def_okG (m := b_is_integer) 1 1 F sc_is_integer rfl rfl fun cdv A outer s H E hcv hG hr =>
  (ss_one (s_ret (se_and (se_bi cr_isi f1_isi (by rfl) nb.b_isinstance (by decide +kernel) (spa_cons (sp_var (pv 0)) (spa_cons (SE.sp (se_ty (by rfl) nb.b_int (by decide +kernel))) spa_nil))) (se_one (se_not (se_bi cr_isi f1_isi (by rfl) nb.b_isinstance (by decide +kernel) (spa_cons (sp_var (pv 0)) (spa_cons (SE.sp (se_ty (by rfl) nb.b_bool (by decide +kernel))) spa_nil))))))))
theorem ok_divisor (nb : Nb mg) : ∀ f fd, Fun K "divisor" "divisor" s_divisor f fd → FnG P w K mg base 1 f fd ["one", "late"] (spF K f_divisor) := fun f fd F => def_okG (m := b_divisor) 2 2 F sc_divisor rfl rfl fun cdv A outer s H E hcv hG hr =>
  (ss_cons (s_while FUEL (fun hc hb => ps_while PassesOwn.never hc hb) (st_cmp op_gt c2_int (sp_var (pv 1)) (SE.sp se_int) (nomark _))
  (ss_one (s_par (ps_par (by rfl) sc_divisor.nd rfl rfl (by decide) rfl rfl (SA.pa (sa_cons (se_var (pv 1)) (sa_cons (se_op op_mod o2_mod (SE.sp (se_bt call_int1 f1_int (by rfl) nb.b_int (by decide +kernel) (spa_cons (sp_var (pv 0)) spa_nil))) (sp_var (pv 1))) sa_nil))) (by rfl)) (fun _ _ _ h => h))))
  (ss_one (s_ret (se_var (pv 0)))))
theorem ok_is_fraction_of (c_is_integer : CalG P w K mg base 1 "is_integer" f_is_integer) (c_divisor : CalG P w K mg base 1 "divisor" f_divisor) (nb : Nb mg) : ∀ f fd, Fun K "is_fraction_of" "is_fraction_of" s_is_fraction_of f fd → FnG P w K mg base 2 f fd ["value"] (spF K f_is_fraction_of) := fun f fd F => def_okG (m := b_is_fraction_of) 1 1 F sc_is_fraction_of rfl rfl fun cdv A outer s H E hcv hG hr =>
  (ss_cons (s_if (SW.st (sw_or (st_not (st_val (SE.sp (se_bi cr_isi f1_isi (by rfl) nb.b_isinstance (by decide +kernel) (spa_cons (sp_var (pv 0)) (spa_cons (SE.sp (se_ty (by rfl) nb.b_tuple (by decide +kernel))) spa_nil)))))) (sw_or (st_cmp (op_neD hr.units) c2_ne (SE.sp (se_bi cr_len f1_len (by rfl) nb.b_len (by decide +kernel) (spa_cons (sp_var (pv 0)) spa_nil))) (SE.sp se_int) (nomark _)) (sw_or (st_not (st_val (SE.sp (se_cG c_is_integer hG hr (by decide) (by rfl) (sa_cons (se_ix ix_seq o2_ix (sp_var (pv 0)) (SE.sp se_int) (fun _ _ => rfl)) sa_nil))))) (sw_or1 (st_not (st_val (SE.sp (se_cG c_is_integer hG hr (by decide) (by rfl) (sa_cons (se_ix ix_seq o2_ix (sp_var (pv 0)) (SE.sp se_int) (fun _ _ => rfl)) sa_nil))))))))))
  (ss_one (s_ret se_bl))
  ss_nil)
  (ss_one (s_ret (se_and (se_cmp op_ge c2_int (SE.sp (se_ix ix_seq o2_ix (sp_var (pv 0)) (SE.sp se_int) (fun _ _ => rfl))) (SE.sp se_int) (nomark _)) (se_one (se_cmp (op_eqD hr.units) c2_eq (SE.sp (se_cG c_divisor hG hr (by decide) (by rfl) (sa_cons (se_bi call_abs f1_abs (by rfl) nb.b_abs (by decide +kernel) (spa_cons (SE.sp (se_ix ix_seq o2_ix (sp_var (pv 0)) (SE.sp se_int) (fun _ _ => rfl))) spa_nil)) (sa_cons (se_ix ix_seq o2_ix (sp_var (pv 0)) (SE.sp se_int) (fun _ _ => rfl)) sa_nil)))) (SE.sp se_int) (nomark _)))))))
theorem ok_reduced (c_divisor : CalG P w K mg base 1 "divisor" f_divisor) (nb : Nb mg) : ∀ f fd, Fun K "reduced" "reduced" s_reduced f fd → FnG P w K mg base 2 f fd ["top", "bottom"] (spF K f_reduced) := fun f fd F => def_okG (m := b_reduced) 2 3 F sc_reduced rfl rfl fun cdv A outer s H E hcv hG hr =>
  (ss_cons (s_if (st_cmp op_lt c2_int (sp_var (pv 1)) (SE.sp se_int) (nomark _))
  (ss_one (s_par (ps_par (by rfl) sc_reduced.nd rfl rfl (by decide) rfl rfl (SA.pa (sa_cons (se_op op_sub o2_sub (SE.sp se_int) (sp_var (pv 0))) (sa_cons (se_op op_sub o2_sub (SE.sp se_int) (sp_var (pv 1))) sa_nil))) (by rfl)) (fun _ _ _ h => h)))
  ss_nil)
  (ss_cons (s_asg (ps_set (i := 2) sc_reduced.nd rfl (by first | exact .inl rfl | exact .inr rfl) (SE.pe (se_cG c_divisor hG hr (by decide) (by rfl) (sa_cons (se_bi call_abs f1_abs (by rfl) nb.b_abs (by decide +kernel) (spa_cons (sp_var (pv 0)) spa_nil)) (sa_cons (se_var (pv 1)) sa_nil))))) (fun _ _ _ h => h))
  (ss_one (s_ret (se_tup (sa_cons (se_op op_fdivW o2_div (sp_var (pv 0)) (sp_var (pv 2))) (sa_cons (se_op op_fdivW o2_div (sp_var (pv 1)) (sp_var (pv 2))) sa_nil)))))))
theorem ok_add (c_reduced : CalG P w K mg base 2 "reduced" f_reduced) : ∀ f fd, Fun K "add" "add" s_add f fd → FnG P w K mg base 3 f fd ["one", "late"] (spF K f_add) := fun f fd F => def_okG (m := b_add) 2 2 F sc_add rfl rfl fun cdv A outer s H E hcv hG hr =>
  (ss_one (s_ret (se_cG c_reduced hG hr (by decide) (by rfl) (sa_cons (se_op or_add o2_add (SE.sp (se_op or_mul o2_mul (SE.sp (se_ix ix_seq o2_ix (sp_var (pv 0)) (SE.sp se_int) (fun _ _ => rfl))) (SE.sp (se_ix ix_seq o2_ix (sp_var (pv 1)) (SE.sp se_int) (fun _ _ => rfl))))) (SE.sp (se_op or_mul o2_mul (SE.sp (se_ix ix_seq o2_ix (sp_var (pv 1)) (SE.sp se_int) (fun _ _ => rfl))) (SE.sp (se_ix ix_seq o2_ix (sp_var (pv 0)) (SE.sp se_int) (fun _ _ => rfl)))))) (sa_cons (se_op or_mul o2_mul (SE.sp (se_ix ix_seq o2_ix (sp_var (pv 0)) (SE.sp se_int) (fun _ _ => rfl))) (SE.sp (se_ix ix_seq o2_ix (sp_var (pv 1)) (SE.sp se_int) (fun _ _ => rfl)))) sa_nil)))))
theorem ok_total (c_add : CalG P w K mg base 3 "add" f_add) (k_NOUGHT : ConR K mg "NOUGHT" (.tup [(.int 0), (.int 1)])) : ∀ f fd, Fun K "total" "total" s_total f fd → FnG P w K mg base 4 f fd ["some"] (spF K f_total) := fun f fd F => def_okG (m := b_total) 1 3 F sc_total rfl rfl fun cdv A outer s H E hcv hG hr =>
  (ss_cons (s_asg (ps_set (i := 1) sc_total.nd rfl (by first | exact .inl rfl | exact .inr rfl) (SE.pe (se_con k_NOUGHT (by rfl)))) (fun _ _ _ h => h))
  (ss_cons (s_for PassesOwn.never rfl (si_seq (se_var (pv 0))) (sg_name (pg_name (i := 2) sc_total.nd rfl (by first | exact .inl rfl | exact .inr rfl)))
  (ss_one (s_asg (ps_set (i := 1) sc_total.nd rfl (by first | exact .inl rfl | exact .inr rfl) (SE.pe (se_cG c_add hG hr (by decide) (by rfl) (sa_cons (se_var (pv 1)) (sa_cons (se_var (pv 2)) sa_nil))))) (fun _ _ _ h => h))))
  (ss_one (s_ret (se_var (pv 1))))))
theorem ok_is_lot_of (c_is_fraction_of : CalG P w K mg base 2 "is_fraction_of" f_is_fraction_of) (c_total : CalG P w K mg base 4 "total" f_total) (k_MOST_PLACES : ConR K mg "MOST_PLACES" (.int 8)) (k_ONE : ConR K mg "ONE" (.tup [(.int 1), (.int 1)])) (nb : Nb mg) : ∀ f fd, Fun K "is_lot_of" "is_lot_of" s_is_lot_of f fd → FnG P w K mg base 5 f fd ["value"] (spF K f_is_lot_of) := fun f fd F => def_okG (m := b_is_lot_of) 1 2 F sc_is_lot_of rfl rfl fun cdv A outer s H E hcv hG hr =>
  (ss_cons (s_if (SW.st (sw_or (st_not (st_val (SE.sp (se_bi cr_isi f1_isi (by rfl) nb.b_isinstance (by decide +kernel) (spa_cons (sp_var (pv 0)) (spa_cons (SE.sp (se_ty (by rfl) nb.b_tuple (by decide +kernel))) spa_nil)))))) (sw_or1 (st_not (st_chain op_le op_le c2_int c2_int (SE.sp se_int) (SE.sp (se_bi cr_len f1_len (by rfl) nb.b_len (by decide +kernel) (spa_cons (sp_var (pv 0)) spa_nil))) (SE.sp (se_con k_MOST_PLACES (by rfl))))))))
  (ss_one (s_ret se_bl))
  ss_nil)
  (ss_cons (s_if (st_not (st_val (SE.sp (se_bi (cr_all rfl) f1_all (by rfl) nb.b_all (by decide +kernel) (spa_cons (SE.sp (SL.se (sl_lc (own := [("one", 1)]) rfl sc_is_lot_of.nd (sip_seq (sp_var (pv 0))) (blkOk_by (N := N_is_lot_of) (sc := (defScope s_is_lot_of)) (by decide +kernel)) (fun _ _ _ _ _ => (sg_name (pg_name (i := 1) sc_is_lot_of.nd rfl (by first | exact .inl rfl | exact .inr rfl)))) (fun _ _ _ _ _ => sts_nil) (fun _ _ _ _ _ => (se_and (se_cG c_is_fraction_of hG hr (by decide) (by rfl) (sa_cons (se_var (pv 1)) sa_nil)) (se_one (se_cmp op_ge c2_int (SE.sp (se_ix ix_seq o2_ix (sp_var (pv 1)) (SE.sp se_int) (fun _ _ => rfl))) (SE.sp se_int) (nomark _))))) (by decide)))) spa_nil)))))
  (ss_one (s_ret se_bl))
  ss_nil)
  (ss_one (s_ret (se_cmp (op_eqD hr.units) c2_eq (SE.sp (se_cG c_total hG hr (by decide) (by rfl) (sa_cons (se_var (pv 0)) sa_nil))) (SE.sp (se_con k_ONE (by rfl))) (nomark _))))))
theorem ok_is_short (c_is_fraction_of : CalG P w K mg base 2 "is_fraction_of" f_is_fraction_of) (k_MOST_DIGITS : ConR K mg "MOST_DIGITS" (.int 1000000000000)) (nb : Nb mg) : ∀ f fd, Fun K "is_short" "is_short" s_is_short f fd → FnG P w K mg base 3 f fd ["value"] (spF K f_is_short) := fun f fd F => def_okG (m := b_is_short) 1 1 F sc_is_short rfl rfl fun cdv A outer s H E hcv hG hr =>
  (ss_one (s_ret (se_and (se_cG c_is_fraction_of hG hr (by decide) (by rfl) (sa_cons (se_var (pv 0)) sa_nil)) (se_and (se_cmp op_lt c2_int (SE.sp (se_bi call_abs f1_abs (by rfl) nb.b_abs (by decide +kernel) (spa_cons (SE.sp (se_ix ix_seq o2_ix (sp_var (pv 0)) (SE.sp se_int) (fun _ _ => rfl))) spa_nil))) (SE.sp (se_con k_MOST_DIGITS (by rfl))) (nomark _)) (se_one (se_cmp op_lt c2_int (SE.sp (se_ix ix_seq o2_ix (sp_var (pv 0)) (SE.sp se_int) (fun _ _ => rfl))) (SE.sp (se_con k_MOST_DIGITS (by rfl))) (nomark _)))))))
theorem ok_is_short_lot (c_is_lot_of : CalG P w K mg base 5 "is_lot_of" f_is_lot_of) (c_is_short : CalG P w K mg base 3 "is_short" f_is_short) (nb : Nb mg) : ∀ f fd, Fun K "is_short_lot" "is_short_lot" s_is_short_lot f fd → FnG P w K mg base 6 f fd ["value"] (spF K f_is_short_lot) := fun f fd F => def_okG (m := b_is_short_lot) 1 2 F sc_is_short_lot rfl rfl fun cdv A outer s H E hcv hG hr =>
  (ss_one (s_ret (se_and (se_cG c_is_lot_of hG hr (by decide) (by rfl) (sa_cons (se_var (pv 0)) sa_nil)) (se_one (se_bi (cr_all rfl) f1_all (by rfl) nb.b_all (by decide +kernel) (spa_cons (SE.sp (SL.se (sl_lc (own := [("one", 1)]) rfl sc_is_short_lot.nd (sip_seq (sp_var (pv 0))) (blkOk_by (N := N_is_short_lot) (sc := (defScope s_is_short_lot)) (by decide +kernel)) (fun _ _ _ _ _ => (sg_name (pg_name (i := 1) sc_is_short_lot.nd rfl (by first | exact .inl rfl | exact .inr rfl)))) (fun _ _ _ _ _ => sts_nil) (fun _ _ _ _ _ => (se_cG c_is_short hG hr (by decide) (by rfl) (sa_cons (se_var (pv 1)) sa_nil))) (by decide)))) spa_nil))))))
theorem ok_are_lots (c_is_list : CalG P w K mg base 1 "is_list" f_is_list) (c_is_fraction_of : CalG P w K mg base 2 "is_fraction_of" f_is_fraction_of) (c_is_lot_of : CalG P w K mg base 5 "is_lot_of" f_is_lot_of) (c_is_short_lot : CalG P w K mg base 6 "is_short_lot" f_is_short_lot) (fns : Fns mg) (nb : Nb mg) : ∀ f fd, Fun K "are_lots" "are_lots" s_are_lots f fd → FnG P w K mg base 7 f fd ["value", "is_own"] (spF K f_are_lots) := fun f fd F => def_okG (m := b_are_lots) 2 3 F sc_are_lots rfl rfl fun cdv A outer s H E hcv hG hr =>
  (ss_cons (s_if (SW.st (sw_or (st_not (st_val (SE.sp (se_cG c_is_list hG hr (by decide) (by rfl) (sa_cons (se_var (pv 0)) sa_nil))))) (sw_or (st_cmp (op_eqD hr.units) c2_eq (SE.sp (se_bi cr_len f1_len (by rfl) nb.b_len (by decide +kernel) (spa_cons (sp_var (pv 0)) spa_nil))) (SE.sp se_int) (nomark _)) (sw_or1 (st_not (st_val (SE.sp (se_bi (cr_all rfl) f1_all (by rfl) nb.b_all (by decide +kernel) (spa_cons (SE.sp (SL.se (sl_lc (own := [("lot", 2)]) rfl sc_are_lots.nd (sip_seq (sp_var (pv 0))) (blkOk_by (N := N_are_lots) (sc := (defScope s_are_lots)) (by decide +kernel)) (fun _ _ _ _ _ => (sg_name (pg_name (i := 2) sc_are_lots.nd rfl (by first | exact .inl rfl | exact .inr rfl)))) (fun _ _ _ _ _ => sts_nil) (fun _ _ _ _ _ => (se_callV (pv 1) fns (fun n h => match n, h with | 0, _ => ⟨_, by decide, c_is_fraction_of⟩ | 1, _ => ⟨_, by decide, c_is_lot_of⟩ | 2, _ => ⟨_, by decide, c_is_short_lot⟩ | n + 3, h => (Nat.not_lt.mpr (show FNS.length ≤ n + 3 from Nat.le_add_left 3 n) h).elim) hG hr (sa_cons (se_var (pv 2)) sa_nil))) (by decide)))) spa_nil)))))))))
  (ss_one (s_ret se_bl))
  ss_nil)
  (ss_one (s_ret (se_bi (cr_all rfl) f1_all (by rfl) nb.b_all (by decide +kernel) (spa_cons (SE.sp (SL.se (sl_lc (own := [("lot", 2)]) rfl sc_are_lots.nd (sip_seq (sp_var (pv 0))) (blkOk_by (N := N_are_lots) (sc := (defScope s_are_lots)) (by decide +kernel)) (fun _ _ _ _ _ => (sg_name (pg_name (i := 2) sc_are_lots.nd rfl (by first | exact .inl rfl | exact .inr rfl)))) (fun _ _ _ _ _ => sts_nil) (fun _ _ _ _ _ => (se_cmp (op_eqD hr.units) c2_eq (SE.sp (se_bi cr_len f1_len (by rfl) nb.b_len (by decide +kernel) (spa_cons (sp_var (pv 2)) spa_nil))) (SE.sp (se_bi cr_len f1_len (by rfl) nb.b_len (by decide +kernel) (spa_cons (SE.sp (se_ix ix_seq o2_ix (sp_var (pv 0)) (SE.sp se_int) (fun _ _ => rfl))) spa_nil))) (nomark _))) (by decide)))) spa_nil)))))
theorem ok_is_look_of (c_are_lots : CalG P w K mg base 7 "are_lots" f_are_lots) (k_MOST_STATES : ConR K mg "MOST_STATES" (.int 6)) (kf_is_lot_of : ConR K mg "is_lot_of" (.fn 1)) (nb : Nb mg) : ∀ f fd, Fun K "is_look_of" "is_look_of" s_is_look_of f fd → FnG P w K mg base 8 f fd ["value"] (spF K f_is_look_of) := fun f fd F => def_okG (m := b_is_look_of) 1 1 F sc_is_look_of rfl rfl fun cdv A outer s H E hcv hG hr =>
  (ss_one (s_ret (se_and (se_cG c_are_lots hG hr (by decide) (by rfl) (sa_cons (se_var (pv 0)) (sa_cons (se_con kf_is_lot_of (by rfl)) sa_nil))) (se_one (se_cmp op_le c2_int (SE.sp (se_bi cr_len f1_len (by rfl) nb.b_len (by decide +kernel) (spa_cons (sp_var (pv 0)) spa_nil))) (SE.sp (se_con k_MOST_STATES (by rfl))) (nomark _))))))
theorem ok_is_look (c_is_look_of : CalG P w K mg base 8 "is_look_of" f_is_look_of) : ∀ f fd, Fun K "is_look" "is_look" s_is_look f fd → FnG P w K mg base 9 f fd ["value"] (spF K f_is_look) := fun f fd F => def_okG (m := b_is_look) 1 1 F sc_is_look rfl rfl fun cdv A outer s H E hcv hG hr =>
  (ss_one (s_ret (se_cG c_is_look_of hG hr (by decide) (by rfl) (sa_cons (se_var (pv 0)) sa_nil))))
theorem ok_law_looks_right (c_law_bent : CalG P w K mg base 8 "_law_bent" f_law_bent) (c_law_is_look : CalG P w K mg base 5 "_law_is_look" f_law_is_look) (c_is_look : CalG P w K mg base 9 "is_look" f_is_look) (ck_is_look_value : CalKG P w K mg base 9 "is_look" f_is_look ["value"] [0]) (nb : Nb mg) : ∀ f fd, Fun K "_law_looks_right" "_law_looks_right" s_law_looks_right f fd → FnG P w K mg base 10 f fd ["pot", "look"] (spF K f_law_looks_right) := fun f fd F => def_okG (m := b_law_looks_right) 2 6 F sc_law_looks_right rfl rfl fun cdv A outer s H E hcv hG hr =>
  (ss_cons (s_for PassesOwn.never rfl (si_seq (se_op or_add o2_add (SE.sp (SL.se (sl_lst (sa_cons (se_var (pv 1)) (sa_cons (se_bt call_tuple_of f1_tuple (by rfl) nb.b_tuple (by decide +kernel) (spa_cons (sp_var (pv 1)) spa_nil)) (sa_cons (SL.se (sl_lst sa_nil)) (sa_cons (SL.se (sl_lst (sa_cons (se_tup sa_nil) sa_nil))) (sa_cons se_non (sa_cons (se_op or_mul o2_mul (SE.sp (SL.se (sl_lst (sa_cons (se_ix ix_seq o2_ix (sp_var (pv 1)) (SE.sp se_int) (fun _ _ => rfl)) sa_nil)))) (SE.sp se_int)) (sa_cons (se_op or_mul o2_mul (SE.sp (SL.se (sl_lst (sa_cons (se_ix ix_seq o2_ix (sp_var (pv 1)) (SE.sp se_int) (fun _ _ => rfl)) sa_nil)))) (SE.sp se_int)) sa_nil)))))))))) (SE.sp (SL.se (sl_lc (own := [("turn", 5)]) rfl sc_law_looks_right.nd (SI.sip (si_range1 (by rfl) nb.b_range (SE.sp se_int))) (blkOk_by (N := N_law_looks_right) (sc := (defScope s_law_looks_right)) (by decide +kernel)) (fun _ _ _ _ _ => (sg_name (pg_name (i := 5) sc_law_looks_right.nd rfl (by first | exact .inl rfl | exact .inr rfl)))) (fun _ _ _ _ _ => sts_nil) (fun _ _ _ _ _ => (se_cG c_law_bent hG hr (by decide) (by rfl) (sa_cons (se_var (pv 0)) (sa_cons (se_var (pv 1)) sa_nil)))) (by decide)))))) (sg_name (pg_name (i := 2) sc_law_looks_right.nd rfl (by first | exact .inl rfl | exact .inr rfl)))
  (ss_cons (s_par (ps_par (by rfl) sc_law_looks_right.nd rfl rfl (by decide) rfl rfl (SA.pa (sa_cons (se_cG c_law_is_look hG hr (by decide) (by rfl) (sa_cons (se_var (pv 2)) sa_nil)) (sa_cons (se_bi (cr_repr hG hr.units) f1_repr (by rfl) nb.b_repr (by decide +kernel) (spa_cons (sp_var (pv 2)) spa_nil)) sa_nil))) (by rfl)) (fun _ _ _ h => h))
  (ss_one (s_if (SW.st (sw_or (st_cmp (op_neD hr.units) c2_ne (SE.sp (se_bi (cr_repr hG hr.units) f1_repr (by rfl) nb.b_repr (by decide +kernel) (spa_cons (SE.sp (SL.se (sl_lst (sa_cons (se_cG c_is_look hG hr (by decide) (by rfl) (sa_cons (se_var (pv 2)) sa_nil)) (sa_cons (se_kG ck_is_look_value hG hr (by decide) (by rfl) (sk_cons (se_var (pv 2)) sk_nil)) sa_nil))))) spa_nil))) (SE.sp (se_bi (cr_repr hG hr.units) f1_repr (by rfl) nb.b_repr (by decide +kernel) (spa_cons (SE.sp (SL.se (sl_lst (sa_cons (se_var (pv 3)) (sa_cons (se_var (pv 3)) sa_nil))))) spa_nil))) (nomark _)) (sw_or1 (st_cmp (op_neD hr.units) c2_ne (SE.sp (se_bi (cr_repr hG hr.units) f1_repr (by rfl) nb.b_repr (by decide +kernel) (spa_cons (sp_var (pv 2)) spa_nil))) (sp_var (pv 4)) (nomark _)))))
  (ss_one (s_ret se_bl))
  ss_nil))))
  (ss_one (s_ret se_bl)))
theorem ok_law_is_lot_like (c_law_is_lot : CalG P w K mg base 4 "_law_is_lot" f_law_is_lot) (nb : Nb mg) : ∀ f fd, Fun K "_law_is_lot_like" "_law_is_lot_like" s_law_is_lot_like f fd → FnG P w K mg base 5 f fd ["row", "many"] (spF K f_law_is_lot_like) := fun f fd F => def_okG (m := b_law_is_lot_like) 2 2 F sc_law_is_lot_like rfl rfl fun cdv A outer s H E hcv hG hr =>
  (ss_one (s_ret (se_and (se_cG c_law_is_lot hG hr (by decide) (by rfl) (sa_cons (se_var (pv 0)) (sa_cons se_int sa_nil))) (se_one (se_cmp (op_eqD hr.units) c2_eq (SE.sp (se_bi cr_len f1_len (by rfl) nb.b_len (by decide +kernel) (spa_cons (sp_var (pv 0)) spa_nil))) (sp_var (pv 1)) (nomark _))))))
theorem ok_law_times (c_law_frac : CalG P w K mg base 1 "_law_frac" f_law_frac) : ∀ f fd, Fun K "_law_times" "_law_times" s_law_times f fd → FnG P w K mg base 2 f fd ["one", "late"] (spF K f_law_times) := fun f fd F => def_okG (m := b_law_times) 2 2 F sc_law_times rfl rfl fun cdv A outer s H E hcv hG hr =>
  (ss_one (s_ret (se_cG c_law_frac hG hr (by decide) (by rfl) (sa_cons (se_op or_mul o2_mul (SE.sp (se_ix ix_seq o2_ix (sp_var (pv 0)) (SE.sp se_int) (fun _ _ => rfl))) (SE.sp (se_ix ix_seq o2_ix (sp_var (pv 1)) (SE.sp se_int) (fun _ _ => rfl)))) (sa_cons (se_op or_mul o2_mul (SE.sp (se_ix ix_seq o2_ix (sp_var (pv 0)) (SE.sp se_int) (fun _ _ => rfl))) (SE.sp (se_ix ix_seq o2_ix (sp_var (pv 1)) (SE.sp se_int) (fun _ _ => rfl)))) sa_nil)))))
theorem ok_law_garbled (c_law_sum : CalG P w K mg base 3 "_law_sum" f_law_sum) (c_law_times : CalG P w K mg base 2 "_law_times" f_law_times) (nb : Nb mg) : ∀ f fd, Fun K "_law_garbled" "_law_garbled" s_law_garbled f fd → FnG P w K mg base 4 f fd ["look", "table"] (spF K f_law_garbled) := fun f fd F => def_okG (m := b_law_garbled) 2 7 F sc_law_garbled rfl rfl fun cdv A outer s H E hcv hG hr =>
  (ss_cons (s_own (ps_set (i := 2) sc_law_garbled.nd rfl (by first | exact .inl rfl | exact .inr rfl) (SL.pe (sl_lst sa_nil))) (fun _ _ _ h => h))
  (ss_cons (s_for PassesOwn.never rfl (si_seq (se_var (pv 0))) (sg_name (pg_name (i := 3) sc_law_garbled.nd rfl (by first | exact .inl rfl | exact .inr rfl)))
  (ss_one (s_app (pv 2) (se_bt call_tuple_of f1_tuple (by rfl) nb.b_tuple (by decide +kernel) (spa_cons (SE.sp (SL.se (sl_lc (own := [("sign", 4)]) rfl sc_law_garbled.nd (SI.sip (si_range1 (by rfl) nb.b_range (SE.sp (se_bi cr_len f1_len (by rfl) nb.b_len (by decide +kernel) (spa_cons (SE.sp (se_ix ix_seq o2_ix (sp_var (pv 1)) (SE.sp se_int) (fun _ _ => rfl))) spa_nil))))) (blkOk_by (N := N_law_garbled) (sc := (defScope s_law_garbled)) (by decide +kernel)) (fun _ _ _ _ _ => (sg_name (pg_name (i := 4) sc_law_garbled.nd rfl (by first | exact .inl rfl | exact .inr rfl)))) (fun _ _ _ _ _ => sts_nil) (fun _ _ _ _ _ => (se_cG c_law_sum hG hr (by decide) (by rfl) (sa_cons (SL.se (sl_lc (own := [("one", 5), ("row", 6)]) rfl sc_law_garbled.nd (sip_zip (by rfl) nb.b_zip (sp_var (pv 3)) (sp_var (pv 1))) (blkOk_by (N := N_law_garbled) (sc := (relS _ (defScope s_law_garbled))) (by decide +kernel)) (fun _ _ _ _ _ => (sg_tup rfl (sgs_cons (sg_name (pg_name (i := 5) sc_law_garbled.nd rfl (by first | exact .inl rfl | exact .inr rfl))) (sgs_cons (sg_name (pg_name (i := 6) sc_law_garbled.nd rfl (by first | exact .inl rfl | exact .inr rfl))) sgs_nil)))) (fun _ _ _ _ _ => sts_nil) (fun _ _ _ _ _ => (se_cG c_law_times hG hr (by decide) (by rfl) (sa_cons (se_var (pv 5)) (sa_cons (se_ix ix_seq o2_ix (sp_var (pv 6)) (sp_var (pv 4)) (fun _ _ => rfl)) sa_nil)))) (by decide))) sa_nil))) (by decide)))) spa_nil)))))
  (ss_one (s_frz 2 (s_ret (se_var (pv 2)))))))
theorem ok_law_is_garbling (c_law_is_list : CalG P w K mg base 1 "_law_is_list" f_law_is_list) (c_law_is_lot_like : CalG P w K mg base 5 "_law_is_lot_like" f_law_is_lot_like) (c_law_garbled : CalG P w K mg base 4 "_law_garbled" f_law_garbled) (nb : Nb mg) : ∀ f fd, Fun K "_law_is_garbling" "_law_is_garbling" s_law_is_garbling f fd → FnG P w K mg base 6 f fd ["look", "other", "value"] (spF K f_law_is_garbling) := fun f fd F => def_okG (m := b_law_is_garbling) 3 4 F sc_law_is_garbling rfl rfl fun cdv A outer s H E hcv hG hr =>
  (ss_cons (s_if (SW.st (sw_or (st_not (st_val (SE.sp (se_cG c_law_is_list hG hr (by decide) (by rfl) (sa_cons (se_var (pv 2)) sa_nil))))) (sw_or (st_cmp (op_neD hr.units) c2_ne (SE.sp (se_bi cr_len f1_len (by rfl) nb.b_len (by decide +kernel) (spa_cons (sp_var (pv 2)) spa_nil))) (SE.sp (se_bi cr_len f1_len (by rfl) nb.b_len (by decide +kernel) (spa_cons (SE.sp (se_ix ix_seq o2_ix (sp_var (pv 0)) (SE.sp se_int) (fun _ _ => rfl))) spa_nil))) (nomark _)) (sw_or1 (st_not (st_val (SE.sp (se_bi (cr_all rfl) f1_all (by rfl) nb.b_all (by decide +kernel) (spa_cons (SE.sp (SL.se (sl_lc (own := [("row", 3)]) rfl sc_law_is_garbling.nd (sip_seq (sp_var (pv 2))) (blkOk_by (N := N_law_is_garbling) (sc := (defScope s_law_is_garbling)) (by decide +kernel)) (fun _ _ _ _ _ => (sg_name (pg_name (i := 3) sc_law_is_garbling.nd rfl (by first | exact .inl rfl | exact .inr rfl)))) (fun _ _ _ _ _ => sts_nil) (fun _ _ _ _ _ => (se_cG c_law_is_lot_like hG hr (by decide) (by rfl) (sa_cons (se_var (pv 3)) (sa_cons (se_bi cr_len f1_len (by rfl) nb.b_len (by decide +kernel) (spa_cons (SE.sp (se_ix ix_seq o2_ix (sp_var (pv 1)) (SE.sp se_int) (fun _ _ => rfl))) spa_nil)) sa_nil)))) (by decide)))) spa_nil)))))))))
  (ss_one (s_ret se_bl))
  ss_nil)
  (ss_one (s_ret (se_cmp (op_eqD hr.units) c2_eq (SE.sp (se_cG c_law_garbled hG hr (by decide) (by rfl) (sa_cons (se_var (pv 0)) (sa_cons (SL.se (sl_list (by rfl) nb.b_list (sp_var (pv 2)))) sa_nil)))) (SE.sp (SL.se (sl_list (by rfl) nb.b_list (sp_var (pv 1))))) (nomark _)))))
theorem ok_check_look (c_are_lots : CalG P w K mg base 7 "are_lots" f_are_lots) (k_MOST_STATES : ConR K mg "MOST_STATES" (.int 6)) (kf_is_short_lot : ConR K mg "is_short_lot" (.fn 2)) (nb : Nb mg) : ∀ f fd, Fun K "check_look" "check_look" s_check_look f fd → FnG P w K mg base 8 f fd ["value"] (spF K f_check_look) := fun f fd F => def_okG (m := b_check_look) 1 1 F sc_check_look rfl rfl fun cdv A outer s H E hcv hG hr =>
  (ss_one (s_if (SW.st (sw_or (st_not (st_val (SE.sp (se_cG c_are_lots hG hr (by decide) (by rfl) (sa_cons (se_var (pv 0)) (sa_cons (se_con kf_is_short_lot (by rfl)) sa_nil)))))) (sw_or1 (st_cmp op_gt c2_int (SE.sp (se_bi cr_len f1_len (by rfl) nb.b_len (by decide +kernel) (spa_cons (sp_var (pv 0)) spa_nil))) (SE.sp (se_con k_MOST_STATES (by rfl))) (nomark _)))))
  (ss_one s_never)
  ss_nil))
theorem ok_check_looks (c_check_look : CalG P w K mg base 8 "check_look" f_check_look) (nb : Nb mg) : ∀ f fd, Fun K "check_looks" "check_looks" s_check_looks f fd → FnG P w K mg base 9 f fd ["look", "other"] (spF K f_check_looks) := fun f fd F => def_okG (m := b_check_looks) 2 2 F sc_check_looks rfl rfl fun cdv A outer s H E hcv hG hr =>
  (ss_cons (s_expr (se_cG c_check_look hG hr (by decide) (by rfl) (sa_cons (se_var (pv 0)) sa_nil)))
  (ss_cons (s_expr (se_cG c_check_look hG hr (by decide) (by rfl) (sa_cons (se_var (pv 1)) sa_nil)))
  (ss_one (s_if (st_cmp (op_neD hr.units) c2_ne (SE.sp (se_bi cr_len f1_len (by rfl) nb.b_len (by decide +kernel) (spa_cons (sp_var (pv 0)) spa_nil))) (SE.sp (se_bi cr_len f1_len (by rfl) nb.b_len (by decide +kernel) (spa_cons (sp_var (pv 1)) spa_nil))) (nomark _))
  (ss_one s_never)
  ss_nil))))
theorem ok_signs_of (nb : Nb mg) : ∀ f fd, Fun K "signs_of" "signs_of" s_signs_of f fd → FnG P w K mg base 1 f fd ["look"] (spF K f_signs_of) := fun f fd F => def_okG (m := b_signs_of) 1 1 F sc_signs_of rfl rfl fun cdv A outer s H E hcv hG hr =>
  (ss_one (s_ret (se_bi cr_len f1_len (by rfl) nb.b_len (by decide +kernel) (spa_cons (SE.sp (se_ix ix_seq o2_ix (sp_var (pv 0)) (SE.sp se_int) (fun _ _ => rfl))) spa_nil))))
theorem ok_multiply (c_reduced : CalG P w K mg base 2 "reduced" f_reduced) : ∀ f fd, Fun K "multiply" "multiply" s_multiply f fd → FnG P w K mg base 3 f fd ["one", "late"] (spF K f_multiply) := fun f fd F => def_okG (m := b_multiply) 2 2 F sc_multiply rfl rfl fun cdv A outer s H E hcv hG hr =>
  (ss_one (s_ret (se_cG c_reduced hG hr (by decide) (by rfl) (sa_cons (se_op or_mul o2_mul (SE.sp (se_ix ix_seq o2_ix (sp_var (pv 0)) (SE.sp se_int) (fun _ _ => rfl))) (SE.sp (se_ix ix_seq o2_ix (sp_var (pv 1)) (SE.sp se_int) (fun _ _ => rfl)))) (sa_cons (se_op or_mul o2_mul (SE.sp (se_ix ix_seq o2_ix (sp_var (pv 0)) (SE.sp se_int) (fun _ _ => rfl))) (SE.sp (se_ix ix_seq o2_ix (sp_var (pv 1)) (SE.sp se_int) (fun _ _ => rfl)))) sa_nil)))))
theorem ok_products_sum (c_total : CalG P w K mg base 4 "total" f_total) (c_multiply : CalG P w K mg base 3 "multiply" f_multiply) (nb : Nb mg) : ∀ f fd, Fun K "products_sum" "products_sum" s_products_sum f fd → FnG P w K mg base 5 f fd ["some", "others"] (spF K f_products_sum) := fun f fd F => def_okG (m := b_products_sum) 2 4 F sc_products_sum rfl rfl fun cdv A outer s H E hcv hG hr =>
  (ss_one (s_ret (se_cG c_total hG hr (by decide) (by rfl) (sa_cons (SL.se (sl_lc (own := [("one", 2), ("late", 3)]) rfl sc_products_sum.nd (sip_zip (by rfl) nb.b_zip (sp_var (pv 0)) (sp_var (pv 1))) (blkOk_by (N := N_products_sum) (sc := (defScope s_products_sum)) (by decide +kernel)) (fun _ _ _ _ _ => (sg_tup rfl (sgs_cons (sg_name (pg_name (i := 2) sc_products_sum.nd rfl (by first | exact .inl rfl | exact .inr rfl))) (sgs_cons (sg_name (pg_name (i := 3) sc_products_sum.nd rfl (by first | exact .inl rfl | exact .inr rfl))) sgs_nil)))) (fun _ _ _ _ _ => sts_nil) (fun _ _ _ _ _ => (se_cG c_multiply hG hr (by decide) (by rfl) (sa_cons (se_var (pv 2)) (sa_cons (se_var (pv 3)) sa_nil)))) (by decide))) sa_nil))))
theorem ok_mixed_of (c_products_sum : CalG P w K mg base 5 "products_sum" f_products_sum) (nb : Nb mg) : ∀ f fd, Fun K "mixed_of" "mixed_of" s_mixed_of f fd → FnG P w K mg base 6 f fd ["weights", "lots"] (spF K f_mixed_of) := fun f fd F => def_okG (m := b_mixed_of) 2 4 F sc_mixed_of rfl rfl fun cdv A outer s H E hcv hG hr =>
  (ss_one (s_ret (se_bt call_tuple_of f1_tuple (by rfl) nb.b_tuple (by decide +kernel) (spa_cons (SE.sp (SL.se (sl_lc (own := [("place", 2)]) rfl sc_mixed_of.nd (SI.sip (si_range1 (by rfl) nb.b_range (SE.sp (se_bi cr_len f1_len (by rfl) nb.b_len (by decide +kernel) (spa_cons (SE.sp (se_ix ix_seq o2_ix (sp_var (pv 1)) (SE.sp se_int) (fun _ _ => rfl))) spa_nil))))) (blkOk_by (N := N_mixed_of) (sc := (defScope s_mixed_of)) (by decide +kernel)) (fun _ _ _ _ _ => (sg_name (pg_name (i := 2) sc_mixed_of.nd rfl (by first | exact .inl rfl | exact .inr rfl)))) (fun _ _ _ _ _ => sts_nil) (fun _ _ _ _ _ => (se_cG c_products_sum hG hr (by decide) (by rfl) (sa_cons (se_var (pv 0)) (sa_cons (SL.se (sl_lc (own := [("lot", 3)]) rfl sc_mixed_of.nd (sip_seq (sp_var (pv 1))) (blkOk_by (N := N_mixed_of) (sc := (relS _ (defScope s_mixed_of))) (by decide +kernel)) (fun _ _ _ _ _ => (sg_name (pg_name (i := 3) sc_mixed_of.nd rfl (by first | exact .inl rfl | exact .inr rfl)))) (fun _ _ _ _ _ => sts_nil) (fun _ _ _ _ _ => (se_ix ix_seq o2_ix (sp_var (pv 3)) (sp_var (pv 2)) (fun _ _ => rfl))) (by decide))) sa_nil)))) (by decide)))) spa_nil))))
theorem ok_garbled_of (c_mixed_of : CalG P w K mg base 6 "mixed_of" f_mixed_of) : ∀ f fd, Fun K "garbled_of" "garbled_of" s_garbled_of f fd → FnG P w K mg base 7 f fd ["look", "table"] (spF K f_garbled_of) := fun f fd F => def_okG (m := b_garbled_of) 2 3 F sc_garbled_of rfl rfl fun cdv A outer s H E hcv hG hr =>
  (ss_one (s_ret (SL.se (sl_lc (own := [("lot", 2)]) rfl sc_garbled_of.nd (sip_seq (sp_var (pv 0))) (blkOk_by (N := N_garbled_of) (sc := (defScope s_garbled_of)) (by decide +kernel)) (fun _ _ _ _ _ => (sg_name (pg_name (i := 2) sc_garbled_of.nd rfl (by first | exact .inl rfl | exact .inr rfl)))) (fun _ _ _ _ _ => sts_nil) (fun _ _ _ _ _ => (se_cG c_mixed_of hG hr (by decide) (by rfl) (sa_cons (se_var (pv 2)) (sa_cons (se_var (pv 1)) sa_nil)))) (by decide)))))
theorem ok_is_garbling_of (c_are_lots : CalG P w K mg base 7 "are_lots" f_are_lots) (c_signs_of : CalG P w K mg base 1 "signs_of" f_signs_of) (c_garbled_of : CalG P w K mg base 7 "garbled_of" f_garbled_of) (kf_is_lot_of : ConR K mg "is_lot_of" (.fn 1)) (nb : Nb mg) : ∀ f fd, Fun K "is_garbling_of" "is_garbling_of" s_is_garbling_of f fd → FnG P w K mg base 8 f fd ["look", "other", "value"] (spF K f_is_garbling_of) := fun f fd F => def_okG (m := b_is_garbling_of) 3 4 F sc_is_garbling_of rfl rfl fun cdv A outer s H E hcv hG hr =>
  (ss_cons (s_if (SW.st (sw_or (st_not (st_val (SE.sp (se_cG c_are_lots hG hr (by decide) (by rfl) (sa_cons (se_var (pv 2)) (sa_cons (se_con kf_is_lot_of (by rfl)) sa_nil)))))) (sw_or (st_cmp (op_neD hr.units) c2_ne (SE.sp (se_bi cr_len f1_len (by rfl) nb.b_len (by decide +kernel) (spa_cons (sp_var (pv 2)) spa_nil))) (SE.sp (se_cG c_signs_of hG hr (by decide) (by rfl) (sa_cons (se_var (pv 0)) sa_nil))) (nomark _)) (sw_or1 (st_cmp (op_neD hr.units) c2_ne (SE.sp (se_bi cr_len f1_len (by rfl) nb.b_len (by decide +kernel) (spa_cons (SE.sp (se_ix ix_seq o2_ix (sp_var (pv 2)) (SE.sp se_int) (fun _ _ => rfl))) spa_nil))) (SE.sp (se_cG c_signs_of hG hr (by decide) (by rfl) (sa_cons (se_var (pv 1)) sa_nil))) (nomark _))))))
  (ss_one (s_ret se_bl))
  ss_nil)
  (ss_one (s_ret (se_cmp (op_eqD hr.units) c2_eq (SE.sp (se_cG c_garbled_of hG hr (by decide) (by rfl) (sa_cons (se_var (pv 0)) (sa_cons (se_var (pv 2)) sa_nil)))) (SE.sp (SL.se (sl_lc (own := [("lot", 3)]) rfl sc_is_garbling_of.nd (sip_seq (sp_var (pv 1))) (blkOk_by (N := N_is_garbling_of) (sc := (defScope s_is_garbling_of)) (by decide +kernel)) (fun _ _ _ _ _ => (sg_name (pg_name (i := 3) sc_is_garbling_of.nd rfl (by first | exact .inl rfl | exact .inr rfl)))) (fun _ _ _ _ _ => sts_nil) (fun _ _ _ _ _ => (se_bt call_tuple_of f1_tuple (by rfl) nb.b_tuple (by decide +kernel) (spa_cons (sp_var (pv 3)) spa_nil))) (by decide)))) (nomark _)))))
theorem ok_is_garbling (c_check_looks : CalG P w K mg base 9 "check_looks" f_check_looks) (c_is_garbling_of : CalG P w K mg base 8 "is_garbling_of" f_is_garbling_of) : ∀ f fd, Fun K "is_garbling" "is_garbling" s_is_garbling f fd → FnG P w K mg base 10 f fd ["look", "other", "value"] (spF K f_is_garbling) := fun f fd F => def_okG (m := b_is_garbling) 3 3 F sc_is_garbling rfl rfl fun cdv A outer s H E hcv hG hr =>
  (ss_cons (s_expr (se_cG c_check_looks hG hr (by decide) (by rfl) (sa_cons (se_var (pv 0)) (sa_cons (se_var (pv 1)) sa_nil))))
  (ss_one (s_ret (se_cG c_is_garbling_of hG hr (by decide) (by rfl) (sa_cons (se_var (pv 0)) (sa_cons (se_var (pv 1)) (sa_cons (se_var (pv 2)) sa_nil)))))))
theorem ok_law_are_acts (c_law_is_list : CalG P w K mg base 1 "_law_is_list" f_law_is_list) (c_law_is_fraction : CalG P w K mg base 2 "_law_is_fraction" f_law_is_fraction) (nb : Nb mg) : ∀ f fd, Fun K "_law_are_acts" "_law_are_acts" s_law_are_acts f fd → FnG P w K mg base 3 f fd ["value", "states"] (spF K f_law_are_acts) := fun f fd F => def_okG (m := b_law_are_acts) 2 4 F sc_law_are_acts rfl rfl fun cdv A outer s H E hcv hG hr =>
  (ss_cons (s_if (SW.st (sw_or (st_not (st_val (SE.sp (se_cG c_law_is_list hG hr (by decide) (by rfl) (sa_cons (se_var (pv 0)) sa_nil))))) (sw_or1 (st_not (st_chain op_le op_le c2_int c2_int (SE.sp se_int) (SE.sp (se_bi cr_len f1_len (by rfl) nb.b_len (by decide +kernel) (spa_cons (sp_var (pv 0)) spa_nil))) (SE.sp se_int))))))
  (ss_one (s_ret se_bl))
  ss_nil)
  (ss_one (s_ret (se_bi (cr_all rfl) f1_all (by rfl) nb.b_all (by decide +kernel) (spa_cons (SE.sp (SL.se (sl_lc (own := [("act", 2)]) rfl sc_law_are_acts.nd (sip_seq (sp_var (pv 0))) (blkOk_by (N := N_law_are_acts) (sc := (defScope s_law_are_acts)) (by decide +kernel)) (fun _ _ _ _ _ => (sg_name (pg_name (i := 2) sc_law_are_acts.nd rfl (by first | exact .inl rfl | exact .inr rfl)))) (fun _ _ _ _ _ => sts_nil) (fun _ _ _ _ _ => (se_and (se_cG c_law_is_list hG hr (by decide) (by rfl) (sa_cons (se_var (pv 2)) sa_nil)) (se_and (se_cmp (op_eqD hr.units) c2_eq (SE.sp (se_bi cr_len f1_len (by rfl) nb.b_len (by decide +kernel) (spa_cons (sp_var (pv 2)) spa_nil))) (sp_var (pv 1)) (nomark _)) (se_one (se_bi (cr_all rfl) f1_all (by rfl) nb.b_all (by decide +kernel) (spa_cons (SE.sp (SL.se (sl_lc (own := [("one", 3)]) rfl sc_law_are_acts.nd (sip_seq (sp_var (pv 2))) (blkOk_by (N := N_law_are_acts) (sc := (relS _ (defScope s_law_are_acts))) (by decide +kernel)) (fun _ _ _ _ _ => (sg_name (pg_name (i := 3) sc_law_are_acts.nd rfl (by first | exact .inl rfl | exact .inr rfl)))) (fun _ _ _ _ _ => sts_nil) (fun _ _ _ _ _ => (se_cG c_law_is_fraction hG hr (by decide) (by rfl) (sa_cons (se_var (pv 3)) sa_nil))) (by decide)))) spa_nil)))))) (by decide)))) spa_nil)))))
theorem ok_law_below : ∀ f fd, Fun K "_law_below" "_law_below" s_law_below f fd → FnG P w K mg base 1 f fd ["one", "late"] (spF K f_law_below) := fun f fd F => def_okG (m := b_law_below) 2 2 F sc_law_below rfl rfl fun cdv A outer s H E hcv hG hr =>
  (ss_one (s_ret (se_cmp op_lt c2_int (SE.sp (se_op or_mul o2_mul (SE.sp (se_ix ix_seq o2_ix (sp_var (pv 0)) (SE.sp se_int) (fun _ _ => rfl))) (SE.sp (se_ix ix_seq o2_ix (sp_var (pv 1)) (SE.sp se_int) (fun _ _ => rfl))))) (SE.sp (se_op or_mul o2_mul (SE.sp (se_ix ix_seq o2_ix (sp_var (pv 1)) (SE.sp se_int) (fun _ _ => rfl))) (SE.sp (se_ix ix_seq o2_ix (sp_var (pv 0)) (SE.sp se_int) (fun _ _ => rfl))))) (nomark _))))
theorem ok_law_worths (c_law_times : CalG P w K mg base 2 "_law_times" f_law_times) (c_law_sum : CalG P w K mg base 3 "_law_sum" f_law_sum) (nb : Nb mg) : ∀ f fd, Fun K "_law_worths" "_law_worths" s_law_worths f fd → FnG P w K mg base 4 f fd ["look", "prior", "acts"] (spF K f_law_worths) := fun f fd F => def_okG (m := b_law_worths) 3 10 F sc_law_worths rfl rfl fun cdv A outer s H E hcv hG hr =>
  (ss_cons (s_own (ps_set (i := 3) sc_law_worths.nd rfl (by first | exact .inl rfl | exact .inr rfl) (SL.pe (sl_lst sa_nil))) (fun _ _ _ h => h))
  (ss_cons (s_for PassesOwn.never rfl (si_range1 (by rfl) nb.b_range (SE.sp (se_bi cr_len f1_len (by rfl) nb.b_len (by decide +kernel) (spa_cons (SE.sp (se_ix ix_seq o2_ix (sp_var (pv 0)) (SE.sp se_int) (fun _ _ => rfl))) spa_nil)))) (sg_name (pg_name (i := 4) sc_law_worths.nd rfl (by first | exact .inl rfl | exact .inr rfl)))
  (ss_cons (s_asg (ps_set (i := 5) sc_law_worths.nd rfl (by first | exact .inl rfl | exact .inr rfl) (SE.pe (SL.se (sl_lc (own := [("one", 6), ("lot", 7)]) rfl sc_law_worths.nd (sip_zip (by rfl) nb.b_zip (sp_var (pv 1)) (sp_var (pv 0))) (blkOk_by (N := N_law_worths) (sc := (defScope s_law_worths)) (by decide +kernel)) (fun _ _ _ _ _ => (sg_tup rfl (sgs_cons (sg_name (pg_name (i := 6) sc_law_worths.nd rfl (by first | exact .inl rfl | exact .inr rfl))) (sgs_cons (sg_name (pg_name (i := 7) sc_law_worths.nd rfl (by first | exact .inl rfl | exact .inr rfl))) sgs_nil)))) (fun _ _ _ _ _ => sts_nil) (fun _ _ _ _ _ => (se_cG c_law_times hG hr (by decide) (by rfl) (sa_cons (se_var (pv 6)) (sa_cons (se_ix ix_seq o2_ix (sp_var (pv 7)) (sp_var (pv 4)) (fun _ _ => rfl)) sa_nil)))) (by decide))))) (fun _ _ _ h => h))
  (ss_one (s_app (pv 3) (SL.se (sl_lc (own := [("act", 8)]) rfl sc_law_worths.nd (sip_seq (sp_var (pv 2))) (blkOk_by (N := N_law_worths) (sc := (defScope s_law_worths)) (by decide +kernel)) (fun _ _ _ _ _ => (sg_name (pg_name (i := 8) sc_law_worths.nd rfl (by first | exact .inl rfl | exact .inr rfl)))) (fun _ _ _ _ _ => sts_nil) (fun _ _ _ _ _ => (se_cG c_law_sum hG hr (by decide) (by rfl) (sa_cons (SL.se (sl_lc (own := [("one", 6), ("late", 9)]) rfl sc_law_worths.nd (sip_zip (by rfl) nb.b_zip (sp_var (pv 5)) (sp_var (pv 8))) (blkOk_by (N := N_law_worths) (sc := (relS _ (defScope s_law_worths))) (by decide +kernel)) (fun _ _ _ _ _ => (sg_tup rfl (sgs_cons (sg_name (pg_name (i := 6) sc_law_worths.nd rfl (by first | exact .inl rfl | exact .inr rfl))) (sgs_cons (sg_name (pg_name (i := 9) sc_law_worths.nd rfl (by first | exact .inl rfl | exact .inr rfl))) sgs_nil)))) (fun _ _ _ _ _ => sts_nil) (fun _ _ _ _ _ => (se_cG c_law_times hG hr (by decide) (by rfl) (sa_cons (se_var (pv 6)) (sa_cons (se_var (pv 9)) sa_nil)))) (by decide))) sa_nil))) (by decide)))))))
  (ss_one (s_frz 3 (s_ret (se_var (pv 3)))))))
theorem ok_law_greatest (c_law_below : CalG P w K mg base 1 "_law_below" f_law_below) : ∀ f fd, Fun K "_law_greatest" "_law_greatest" s_law_greatest f fd → FnG P w K mg base 2 f fd ["some"] (spF K f_law_greatest) := fun f fd F => def_okG (m := b_law_greatest) 1 3 F sc_law_greatest rfl rfl fun cdv A outer s H E hcv hG hr =>
  (ss_cons (s_asg (ps_set (i := 1) sc_law_greatest.nd rfl (by first | exact .inl rfl | exact .inr rfl) (SE.pe (se_ix ix_seq o2_ix (sp_var (pv 0)) (SE.sp se_int) (fun _ _ => rfl)))) (fun _ _ _ h => h))
  (ss_cons (s_for PassesOwn.never rfl (si_seq (se_cut (sp_var (pv 0)) (so_some (SE.sp se_int)) so_none)) (sg_name (pg_name (i := 2) sc_law_greatest.nd rfl (by first | exact .inl rfl | exact .inr rfl)))
  (ss_one (s_if (st_val (SE.sp (se_cG c_law_below hG hr (by decide) (by rfl) (sa_cons (se_var (pv 1)) (sa_cons (se_var (pv 2)) sa_nil)))))
  (ss_one (s_asg (ps_set (i := 1) sc_law_greatest.nd rfl (by first | exact .inl rfl | exact .inr rfl) (SE.pe (se_var (pv 2)))) (fun _ _ _ h => h)))
  ss_nil)))
  (ss_one (s_ret (se_var (pv 1))))))
theorem ok_law_worth (c_law_sum : CalG P w K mg base 3 "_law_sum" f_law_sum) (c_law_worths : CalG P w K mg base 4 "_law_worths" f_law_worths) (c_law_greatest : CalG P w K mg base 2 "_law_greatest" f_law_greatest) : ∀ f fd, Fun K "_law_worth" "_law_worth" s_law_worth f fd → FnG P w K mg base 5 f fd ["look", "prior", "acts"] (spF K f_law_worth) := fun f fd F => def_okG (m := b_law_worth) 3 4 F sc_law_worth rfl rfl fun cdv A outer s H E hcv hG hr =>
  (ss_one (s_ret (se_cG c_law_sum hG hr (by decide) (by rfl) (sa_cons (SL.se (sl_lc (own := [("row", 3)]) rfl sc_law_worth.nd (sip_seq (SE.sp (se_cG c_law_worths hG hr (by decide) (by rfl) (sa_cons (se_var (pv 0)) (sa_cons (se_var (pv 1)) (sa_cons (se_var (pv 2)) sa_nil)))))) (blkOk_by (N := N_law_worth) (sc := (defScope s_law_worth)) (by decide +kernel)) (fun _ _ _ _ _ => (sg_name (pg_name (i := 3) sc_law_worth.nd rfl (by first | exact .inl rfl | exact .inr rfl)))) (fun _ _ _ _ _ => sts_nil) (fun _ _ _ _ _ => (se_cG c_law_greatest hG hr (by decide) (by rfl) (sa_cons (se_var (pv 3)) sa_nil))) (by decide))) sa_nil))))
theorem ok_law_is_better (c_law_is_lot_like : CalG P w K mg base 5 "_law_is_lot_like" f_law_is_lot_like) (c_law_are_acts : CalG P w K mg base 3 "_law_are_acts" f_law_are_acts) (c_law_below : CalG P w K mg base 1 "_law_below" f_law_below) (c_law_worth : CalG P w K mg base 5 "_law_worth" f_law_worth) (nb : Nb mg) : ∀ f fd, Fun K "_law_is_better" "_law_is_better" s_law_is_better f fd → FnG P w K mg base 6 f fd ["look", "other", "value"] (spF K f_law_is_better) := fun f fd F => def_okG (m := b_law_is_better) 3 3 F sc_law_is_better rfl rfl fun cdv A outer s H E hcv hG hr =>
  (ss_cons (s_if (SW.st (sw_or (st_not (st_val (SE.sp (se_bi cr_isi f1_isi (by rfl) nb.b_isinstance (by decide +kernel) (spa_cons (sp_var (pv 2)) (spa_cons (SE.sp (se_ty (by rfl) nb.b_tuple (by decide +kernel))) spa_nil)))))) (sw_or (st_cmp (op_neD hr.units) c2_ne (SE.sp (se_bi cr_len f1_len (by rfl) nb.b_len (by decide +kernel) (spa_cons (sp_var (pv 2)) spa_nil))) (SE.sp se_int) (nomark _)) (sw_or (st_not (st_val (SE.sp (se_cG c_law_is_lot_like hG hr (by decide) (by rfl) (sa_cons (se_ix ix_seq o2_ix (sp_var (pv 2)) (SE.sp se_int) (fun _ _ => rfl)) (sa_cons (se_bi cr_len f1_len (by rfl) nb.b_len (by decide +kernel) (spa_cons (sp_var (pv 0)) spa_nil)) sa_nil)))))) (sw_or1 (st_not (st_val (SE.sp (se_cG c_law_are_acts hG hr (by decide) (by rfl) (sa_cons (se_ix ix_seq o2_ix (sp_var (pv 2)) (SE.sp se_int) (fun _ _ => rfl)) (sa_cons (se_bi cr_len f1_len (by rfl) nb.b_len (by decide +kernel) (spa_cons (sp_var (pv 0)) spa_nil)) sa_nil)))))))))))
  (ss_one (s_ret se_bl))
  ss_nil)
  (ss_one (s_ret (se_cG c_law_below hG hr (by decide) (by rfl) (sa_cons (se_cG c_law_worth hG hr (by decide) (by rfl) (sa_cons (se_var (pv 0)) (sa_cons (se_ix ix_seq o2_ix (sp_var (pv 2)) (SE.sp se_int) (fun _ _ => rfl)) (sa_cons (se_ix ix_seq o2_ix (sp_var (pv 2)) (SE.sp se_int) (fun _ _ => rfl)) sa_nil)))) (sa_cons (se_cG c_law_worth hG hr (by decide) (by rfl) (sa_cons (se_var (pv 1)) (sa_cons (se_ix ix_seq o2_ix (sp_var (pv 2)) (SE.sp se_int) (fun _ _ => rfl)) (sa_cons (se_ix ix_seq o2_ix (sp_var (pv 2)) (SE.sp se_int) (fun _ _ => rfl)) sa_nil)))) sa_nil))))))
theorem ok_are_acts (c_is_list : CalG P w K mg base 1 "is_list" f_is_list) (c_is_fraction_of : CalG P w K mg base 2 "is_fraction_of" f_is_fraction_of) (c_is_lot_of : CalG P w K mg base 5 "is_lot_of" f_is_lot_of) (c_is_short_lot : CalG P w K mg base 6 "is_short_lot" f_is_short_lot) (k_MOST_ACTS : ConR K mg "MOST_ACTS" (.int 8)) (fns : Fns mg) (nb : Nb mg) : ∀ f fd, Fun K "are_acts" "are_acts" s_are_acts f fd → FnG P w K mg base 7 f fd ["states", "value", "is_own"] (spF K f_are_acts) := fun f fd F => def_okG (m := b_are_acts) 3 5 F sc_are_acts rfl rfl fun cdv A outer s H E hcv hG hr =>
  (ss_cons (s_if (SW.st (sw_or (st_not (st_val (SE.sp (se_cG c_is_list hG hr (by decide) (by rfl) (sa_cons (se_var (pv 1)) sa_nil))))) (sw_or1 (st_not (st_chain op_le op_le c2_int c2_int (SE.sp se_int) (SE.sp (se_bi cr_len f1_len (by rfl) nb.b_len (by decide +kernel) (spa_cons (sp_var (pv 1)) spa_nil))) (SE.sp (se_con k_MOST_ACTS (by rfl))))))))
  (ss_one (s_ret se_bl))
  ss_nil)
  (ss_cons (s_if (st_not (st_val (SE.sp (se_bi (cr_all rfl) f1_all (by rfl) nb.b_all (by decide +kernel) (spa_cons (SE.sp (SL.se (sl_lc (own := [("act", 3)]) rfl sc_are_acts.nd (sip_seq (sp_var (pv 1))) (blkOk_by (N := N_are_acts) (sc := (defScope s_are_acts)) (by decide +kernel)) (fun _ _ _ _ _ => (sg_name (pg_name (i := 3) sc_are_acts.nd rfl (by first | exact .inl rfl | exact .inr rfl)))) (fun _ _ _ _ _ => sts_nil) (fun _ _ _ _ _ => (se_and (se_cG c_is_list hG hr (by decide) (by rfl) (sa_cons (se_var (pv 3)) sa_nil)) (se_one (se_cmp (op_eqD hr.units) c2_eq (SE.sp (se_bi cr_len f1_len (by rfl) nb.b_len (by decide +kernel) (spa_cons (sp_var (pv 3)) spa_nil))) (sp_var (pv 0)) (nomark _))))) (by decide)))) spa_nil)))))
  (ss_one (s_ret se_bl))
  ss_nil)
  (ss_one (s_ret (se_bi (cr_all rfl) f1_all (by rfl) nb.b_all (by decide +kernel) (spa_cons (SE.sp (SL.se (sl_lc (own := [("act", 3)]) rfl sc_are_acts.nd (sip_seq (sp_var (pv 1))) (blkOk_by (N := N_are_acts) (sc := (defScope s_are_acts)) (by decide +kernel)) (fun _ _ _ _ _ => (sg_name (pg_name (i := 3) sc_are_acts.nd rfl (by first | exact .inl rfl | exact .inr rfl)))) (fun _ _ _ _ _ => sts_nil) (fun _ _ _ _ _ => (se_bi (cr_all rfl) f1_all (by rfl) nb.b_all (by decide +kernel) (spa_cons (SE.sp (SL.se (sl_lc (own := [("one", 4)]) rfl sc_are_acts.nd (sip_seq (sp_var (pv 3))) (blkOk_by (N := N_are_acts) (sc := (relS _ (defScope s_are_acts))) (by decide +kernel)) (fun _ _ _ _ _ => (sg_name (pg_name (i := 4) sc_are_acts.nd rfl (by first | exact .inl rfl | exact .inr rfl)))) (fun _ _ _ _ _ => sts_nil) (fun _ _ _ _ _ => (se_callV (pv 2) fns (fun n h => match n, h with | 0, _ => ⟨_, by decide, c_is_fraction_of⟩ | 1, _ => ⟨_, by decide, c_is_lot_of⟩ | 2, _ => ⟨_, by decide, c_is_short_lot⟩ | n + 3, h => (Nat.not_lt.mpr (show FNS.length ≤ n + 3 from Nat.le_add_left 3 n) h).elim) hG hr (sa_cons (se_var (pv 4)) sa_nil))) (by decide)))) spa_nil))) (by decide)))) spa_nil))))))
theorem ok_is_below : ∀ f fd, Fun K "is_below" "is_below" s_is_below f fd → FnG P w K mg base 1 f fd ["one", "late"] (spF K f_is_below) := fun f fd F => def_okG (m := b_is_below) 2 2 F sc_is_below rfl rfl fun cdv A outer s H E hcv hG hr =>
  (ss_one (s_ret (se_cmp op_lt c2_int (SE.sp (se_op or_mul o2_mul (SE.sp (se_ix ix_seq o2_ix (sp_var (pv 0)) (SE.sp se_int) (fun _ _ => rfl))) (SE.sp (se_ix ix_seq o2_ix (sp_var (pv 1)) (SE.sp se_int) (fun _ _ => rfl))))) (SE.sp (se_op or_mul o2_mul (SE.sp (se_ix ix_seq o2_ix (sp_var (pv 1)) (SE.sp se_int) (fun _ _ => rfl))) (SE.sp (se_ix ix_seq o2_ix (sp_var (pv 0)) (SE.sp se_int) (fun _ _ => rfl))))) (nomark _))))
theorem ok_seen_with (c_multiply : CalG P w K mg base 3 "multiply" f_multiply) (nb : Nb mg) : ∀ f fd, Fun K "seen_with" "seen_with" s_seen_with f fd → FnG P w K mg base 4 f fd ["look", "prior", "sign"] (spF K f_seen_with) := fun f fd F => def_okG (m := b_seen_with) 3 5 F sc_seen_with rfl rfl fun cdv A outer s H E hcv hG hr =>
  (ss_one (s_ret (SL.se (sl_lc (own := [("one", 3), ("lot", 4)]) rfl sc_seen_with.nd (sip_zip (by rfl) nb.b_zip (sp_var (pv 1)) (sp_var (pv 0))) (blkOk_by (N := N_seen_with) (sc := (defScope s_seen_with)) (by decide +kernel)) (fun _ _ _ _ _ => (sg_tup rfl (sgs_cons (sg_name (pg_name (i := 3) sc_seen_with.nd rfl (by first | exact .inl rfl | exact .inr rfl))) (sgs_cons (sg_name (pg_name (i := 4) sc_seen_with.nd rfl (by first | exact .inl rfl | exact .inr rfl))) sgs_nil)))) (fun _ _ _ _ _ => sts_nil) (fun _ _ _ _ _ => (se_cG c_multiply hG hr (by decide) (by rfl) (sa_cons (se_var (pv 3)) (sa_cons (se_ix ix_seq o2_ix (sp_var (pv 4)) (sp_var (pv 2)) (fun _ _ => rfl)) sa_nil)))) (by decide)))))
theorem ok_gains_at (c_seen_with : CalG P w K mg base 4 "seen_with" f_seen_with) (c_products_sum : CalG P w K mg base 5 "products_sum" f_products_sum) : ∀ f fd, Fun K "gains_at" "gains_at" s_gains_at f fd → FnG P w K mg base 6 f fd ["look", "prior", "acts", "sign"] (spF K f_gains_at) := fun f fd F => def_okG (m := b_gains_at) 4 6 F sc_gains_at rfl rfl fun cdv A outer s H E hcv hG hr =>
  (ss_cons (s_asg (ps_set (i := 4) sc_gains_at.nd rfl (by first | exact .inl rfl | exact .inr rfl) (SE.pe (se_cG c_seen_with hG hr (by decide) (by rfl) (sa_cons (se_var (pv 0)) (sa_cons (se_var (pv 1)) (sa_cons (se_var (pv 3)) sa_nil)))))) (fun _ _ _ h => h))
  (ss_one (s_ret (SL.se (sl_lc (own := [("act", 5)]) rfl sc_gains_at.nd (sip_seq (sp_var (pv 2))) (blkOk_by (N := N_gains_at) (sc := (defScope s_gains_at)) (by decide +kernel)) (fun _ _ _ _ _ => (sg_name (pg_name (i := 5) sc_gains_at.nd rfl (by first | exact .inl rfl | exact .inr rfl)))) (fun _ _ _ _ _ => sts_nil) (fun _ _ _ _ _ => (se_cG c_products_sum hG hr (by decide) (by rfl) (sa_cons (se_var (pv 4)) (sa_cons (se_var (pv 5)) sa_nil)))) (by decide))))))
theorem ok_worth_by (c_total : CalG P w K mg base 4 "total" f_total) (c_gains_at : CalG P w K mg base 6 "gains_at" f_gains_at) (nb : Nb mg) : ∀ f fd, Fun K "worth_by" "worth_by" s_worth_by f fd → FnG P w K mg base 7 f fd ["look", "prior", "acts", "plan"] (spF K f_worth_by) := fun f fd F => def_okG (m := b_worth_by) 4 6 F sc_worth_by rfl rfl fun cdv A outer s H E hcv hG hr =>
  (ss_one (s_ret (se_cG c_total hG hr (by decide) (by rfl) (sa_cons (SL.se (sl_lc (own := [("sign", 4), ("act", 5)]) rfl sc_worth_by.nd (sip_enum (by rfl) nb.b_enumerate (sp_var (pv 3))) (blkOk_by (N := N_worth_by) (sc := (defScope s_worth_by)) (by decide +kernel)) (fun _ _ _ _ _ => (sg_tup rfl (sgs_cons (sg_name (pg_name (i := 4) sc_worth_by.nd rfl (by first | exact .inl rfl | exact .inr rfl))) (sgs_cons (sg_name (pg_name (i := 5) sc_worth_by.nd rfl (by first | exact .inl rfl | exact .inr rfl))) sgs_nil)))) (fun _ _ _ _ _ => sts_nil) (fun _ _ _ _ _ => (se_ix ix_seq o2_ix (SE.sp (se_cG c_gains_at hG hr (by decide) (by rfl) (sa_cons (se_var (pv 0)) (sa_cons (se_var (pv 1)) (sa_cons (se_var (pv 2)) (sa_cons (se_var (pv 4)) sa_nil)))))) (sp_var (pv 5)) (fun _ _ => rfl))) (by decide))) sa_nil))))
theorem ok_best_of (c_is_below : CalG P w K mg base 1 "is_below" f_is_below) (nb : Nb mg) : ∀ f fd, Fun K "best_of" "best_of" s_best_of f fd → FnG P w K mg base 2 f fd ["some"] (spF K f_best_of) := fun f fd F => def_okG (m := b_best_of) 1 4 F sc_best_of rfl rfl fun cdv A outer s H E hcv hG hr =>
  (ss_cons (s_asg (ps_set (i := 1) sc_best_of.nd rfl (by first | exact .inl rfl | exact .inr rfl) (SE.pe se_int)) (fun _ _ _ h => h))
  (ss_cons (s_for PassesOwn.never rfl (si_enum (by rfl) nb.b_enumerate (se_var (pv 0))) (sg_tup rfl (sgs_cons (sg_name (pg_name (i := 2) sc_best_of.nd rfl (by first | exact .inl rfl | exact .inr rfl))) (sgs_cons (sg_name (pg_name (i := 3) sc_best_of.nd rfl (by first | exact .inl rfl | exact .inr rfl))) sgs_nil)))
  (ss_one (s_if (st_val (SE.sp (se_cG c_is_below hG hr (by decide) (by rfl) (sa_cons (se_ix ix_seq o2_ix (sp_var (pv 0)) (sp_var (pv 1)) (fun _ _ => rfl)) (sa_cons (se_var (pv 3)) sa_nil)))))
  (ss_one (s_asg (ps_set (i := 1) sc_best_of.nd rfl (by first | exact .inl rfl | exact .inr rfl) (SE.pe (se_var (pv 2)))) (fun _ _ _ h => h)))
  ss_nil)))
  (ss_one (s_ret (se_var (pv 1))))))
theorem ok_plan_of (c_signs_of : CalG P w K mg base 1 "signs_of" f_signs_of) (c_best_of : CalG P w K mg base 2 "best_of" f_best_of) (c_gains_at : CalG P w K mg base 6 "gains_at" f_gains_at) (nb : Nb mg) : ∀ f fd, Fun K "plan_of" "plan_of" s_plan_of f fd → FnG P w K mg base 7 f fd ["look", "prior", "acts"] (spF K f_plan_of) := fun f fd F => def_okG (m := b_plan_of) 3 4 F sc_plan_of rfl rfl fun cdv A outer s H E hcv hG hr =>
  (ss_one (s_ret (SL.se (sl_lc (own := [("sign", 3)]) rfl sc_plan_of.nd (SI.sip (si_range1 (by rfl) nb.b_range (SE.sp (se_cG c_signs_of hG hr (by decide) (by rfl) (sa_cons (se_var (pv 0)) sa_nil))))) (blkOk_by (N := N_plan_of) (sc := (defScope s_plan_of)) (by decide +kernel)) (fun _ _ _ _ _ => (sg_name (pg_name (i := 3) sc_plan_of.nd rfl (by first | exact .inl rfl | exact .inr rfl)))) (fun _ _ _ _ _ => sts_nil) (fun _ _ _ _ _ => (se_cG c_best_of hG hr (by decide) (by rfl) (sa_cons (se_cG c_gains_at hG hr (by decide) (by rfl) (sa_cons (se_var (pv 0)) (sa_cons (se_var (pv 1)) (sa_cons (se_var (pv 2)) (sa_cons (se_var (pv 3)) sa_nil))))) sa_nil))) (by decide)))))
theorem ok_worth_of (c_worth_by : CalG P w K mg base 7 "worth_by" f_worth_by) (c_plan_of : CalG P w K mg base 7 "plan_of" f_plan_of) : ∀ f fd, Fun K "worth_of" "worth_of" s_worth_of f fd → FnG P w K mg base 8 f fd ["look", "prior", "acts"] (spF K f_worth_of) := fun f fd F => def_okG (m := b_worth_of) 3 3 F sc_worth_of rfl rfl fun cdv A outer s H E hcv hG hr =>
  (ss_one (s_ret (se_cG c_worth_by hG hr (by decide) (by rfl) (sa_cons (se_var (pv 0)) (sa_cons (se_var (pv 1)) (sa_cons (se_var (pv 2)) (sa_cons (se_cG c_plan_of hG hr (by decide) (by rfl) (sa_cons (se_var (pv 0)) (sa_cons (se_var (pv 1)) (sa_cons (se_var (pv 2)) sa_nil)))) sa_nil)))))))
theorem ok_is_better_choice (c_check_looks : CalG P w K mg base 9 "check_looks" f_check_looks) (c_is_lot_of : CalG P w K mg base 5 "is_lot_of" f_is_lot_of) (c_are_acts : CalG P w K mg base 7 "are_acts" f_are_acts) (c_is_below : CalG P w K mg base 1 "is_below" f_is_below) (c_worth_of : CalG P w K mg base 8 "worth_of" f_worth_of) (kf_is_fraction_of : ConR K mg "is_fraction_of" (.fn 0)) (nb : Nb mg) : ∀ f fd, Fun K "is_better_choice" "is_better_choice" s_is_better_choice f fd → FnG P w K mg base 10 f fd ["look", "other", "value"] (spF K f_is_better_choice) := fun f fd F => def_okG (m := b_is_better_choice) 3 3 F sc_is_better_choice rfl rfl fun cdv A outer s H E hcv hG hr =>
  (ss_cons (s_expr (se_cG c_check_looks hG hr (by decide) (by rfl) (sa_cons (se_var (pv 0)) (sa_cons (se_var (pv 1)) sa_nil))))
  (ss_cons (s_if (SW.st (sw_or (st_not (st_val (SE.sp (se_bi cr_isi f1_isi (by rfl) nb.b_isinstance (by decide +kernel) (spa_cons (sp_var (pv 2)) (spa_cons (SE.sp (se_ty (by rfl) nb.b_tuple (by decide +kernel))) spa_nil)))))) (sw_or (st_cmp (op_neD hr.units) c2_ne (SE.sp (se_bi cr_len f1_len (by rfl) nb.b_len (by decide +kernel) (spa_cons (sp_var (pv 2)) spa_nil))) (SE.sp se_int) (nomark _)) (sw_or (st_not (st_val (SE.sp (se_cG c_is_lot_of hG hr (by decide) (by rfl) (sa_cons (se_ix ix_seq o2_ix (sp_var (pv 2)) (SE.sp se_int) (fun _ _ => rfl)) sa_nil))))) (sw_or1 (st_cmp (op_neD hr.units) c2_ne (SE.sp (se_bi cr_len f1_len (by rfl) nb.b_len (by decide +kernel) (spa_cons (SE.sp (se_ix ix_seq o2_ix (sp_var (pv 2)) (SE.sp se_int) (fun _ _ => rfl))) spa_nil))) (SE.sp (se_bi cr_len f1_len (by rfl) nb.b_len (by decide +kernel) (spa_cons (sp_var (pv 0)) spa_nil))) (nomark _)))))))
  (ss_one (s_ret se_bl))
  ss_nil)
  (ss_cons (s_if (st_not (st_val (SE.sp (se_cG c_are_acts hG hr (by decide) (by rfl) (sa_cons (se_bi cr_len f1_len (by rfl) nb.b_len (by decide +kernel) (spa_cons (sp_var (pv 0)) spa_nil)) (sa_cons (se_ix ix_seq o2_ix (sp_var (pv 2)) (SE.sp se_int) (fun _ _ => rfl)) (sa_cons (se_con kf_is_fraction_of (by rfl)) sa_nil)))))))
  (ss_one (s_ret se_bl))
  ss_nil)
  (ss_one (s_ret (se_cG c_is_below hG hr (by decide) (by rfl) (sa_cons (se_cG c_worth_of hG hr (by decide) (by rfl) (sa_cons (se_var (pv 0)) (sa_cons (se_ix ix_seq o2_ix (sp_var (pv 2)) (SE.sp se_int) (fun _ _ => rfl)) (sa_cons (se_ix ix_seq o2_ix (sp_var (pv 2)) (SE.sp se_int) (fun _ _ => rfl)) sa_nil)))) (sa_cons (se_cG c_worth_of hG hr (by decide) (by rfl) (sa_cons (se_var (pv 1)) (sa_cons (se_ix ix_seq o2_ix (sp_var (pv 2)) (SE.sp se_int) (fun _ _ => rfl)) (sa_cons (se_ix ix_seq o2_ix (sp_var (pv 2)) (SE.sp se_int) (fun _ _ => rfl)) sa_nil)))) sa_nil))))))))
theorem ok_law_papers_right (c_law_bent : CalG P w K mg base 8 "_law_bent" f_law_bent) (c_law_is_garbling : CalG P w K mg base 6 "_law_is_garbling" f_law_is_garbling) (c_is_garbling : CalG P w K mg base 10 "is_garbling" f_is_garbling) (c_law_is_better : CalG P w K mg base 6 "_law_is_better" f_law_is_better) (c_is_better_choice : CalG P w K mg base 10 "is_better_choice" f_is_better_choice) (ck_is_garbling_value_other_look : CalKG P w K mg base 10 "is_garbling" f_is_garbling ["value", "other", "look"] [2, 1, 0]) (ck_is_better_choice_value_other_look : CalKG P w K mg base 10 "is_better_choice" f_is_better_choice ["value", "other", "look"] [2, 1, 0]) (nb : Nb mg) : ∀ f fd, Fun K "_law_papers_right" "_law_papers_right" s_law_papers_right f fd → FnG P w K mg base 11 f fd ["pot", "look", "other", "table", "choice"] (spF K f_law_papers_right) := fun f fd F => def_okG (m := b_law_papers_right) 5 11 F sc_law_papers_right rfl rfl fun cdv A outer s H E hcv hG hr =>
  (ss_cons (s_asg (ps_set (i := 5) sc_law_papers_right.nd rfl (by first | exact .inl rfl | exact .inr rfl) (SE.pe (se_op or_add o2_add (SE.sp (SL.se (sl_lst (sa_cons (se_var (pv 3)) (sa_cons (se_bt call_tuple_of f1_tuple (by rfl) nb.b_tuple (by decide +kernel) (spa_cons (sp_var (pv 3)) spa_nil)) (sa_cons (SL.se (sl_lc (own := [("row", 10)]) rfl sc_law_papers_right.nd (sip_seq (sp_var (pv 3))) (blkOk_by (N := N_law_papers_right) (sc := (defScope s_law_papers_right)) (by decide +kernel)) (fun _ _ _ _ _ => (sg_name (pg_name (i := 10) sc_law_papers_right.nd rfl (by first | exact .inl rfl | exact .inr rfl)))) (fun _ _ _ _ _ => sts_nil) (fun _ _ _ _ _ => (SL.se (sl_list (by rfl) nb.b_list (sp_var (pv 10))))) (by decide))) (sa_cons se_non (sa_cons (SL.se (sl_lst sa_nil)) (sa_cons se_int (sa_cons (se_revA (sp_var (pv 3))) sa_nil)))))))))) (SE.sp (SL.se (sl_lc (own := [("turn", 9)]) rfl sc_law_papers_right.nd (SI.sip (si_range1 (by rfl) nb.b_range (SE.sp se_int))) (blkOk_by (N := N_law_papers_right) (sc := (defScope s_law_papers_right)) (by decide +kernel)) (fun _ _ _ _ _ => (sg_name (pg_name (i := 9) sc_law_papers_right.nd rfl (by first | exact .inl rfl | exact .inr rfl)))) (fun _ _ _ _ _ => sts_nil) (fun _ _ _ _ _ => (se_cG c_law_bent hG hr (by decide) (by rfl) (sa_cons (se_var (pv 0)) (sa_cons (se_var (pv 3)) sa_nil)))) (by decide))))))) (fun _ _ _ h => h))
  (ss_cons (s_for PassesOwn.never rfl (si_seq (se_var (pv 5))) (sg_name (pg_name (i := 6) sc_law_papers_right.nd rfl (by first | exact .inl rfl | exact .inr rfl)))
  (ss_cons (s_par (ps_par (by rfl) sc_law_papers_right.nd rfl rfl (by decide) rfl rfl (SA.pa (sa_cons (se_cG c_law_is_garbling hG hr (by decide) (by rfl) (sa_cons (se_var (pv 1)) (sa_cons (se_var (pv 2)) (sa_cons (se_var (pv 6)) sa_nil)))) (sa_cons (se_bi (cr_repr hG hr.units) f1_repr (by rfl) nb.b_repr (by decide +kernel) (spa_cons (sp_var (pv 6)) spa_nil)) sa_nil))) (by rfl)) (fun _ _ _ h => h))
  (ss_one (s_if (SW.st (sw_or (st_cmp (op_neD hr.units) c2_ne (SE.sp (se_bi (cr_repr hG hr.units) f1_repr (by rfl) nb.b_repr (by decide +kernel) (spa_cons (SE.sp (SL.se (sl_lst (sa_cons (se_cG c_is_garbling hG hr (by decide) (by rfl) (sa_cons (se_var (pv 1)) (sa_cons (se_var (pv 2)) (sa_cons (se_var (pv 6)) sa_nil)))) (sa_cons (se_kG ck_is_garbling_value_other_look hG hr (by decide) (by rfl) (sk_cons (se_var (pv 6)) (sk_cons (se_var (pv 2)) (sk_cons (se_var (pv 1)) sk_nil)))) sa_nil))))) spa_nil))) (SE.sp (se_bi (cr_repr hG hr.units) f1_repr (by rfl) nb.b_repr (by decide +kernel) (spa_cons (SE.sp (SL.se (sl_lst (sa_cons (se_var (pv 7)) (sa_cons (se_var (pv 7)) sa_nil))))) spa_nil))) (nomark _)) (sw_or1 (st_cmp (op_neD hr.units) c2_ne (SE.sp (se_bi (cr_repr hG hr.units) f1_repr (by rfl) nb.b_repr (by decide +kernel) (spa_cons (sp_var (pv 6)) spa_nil))) (sp_var (pv 8)) (nomark _)))))
  (ss_one (s_ret se_bl))
  ss_nil))))
  (ss_cons (s_asg (ps_set (i := 5) sc_law_papers_right.nd rfl (by first | exact .inl rfl | exact .inr rfl) (SE.pe (se_op or_add o2_add (SE.sp (SL.se (sl_lst (sa_cons (se_var (pv 4)) (sa_cons (se_tup (sa_cons (se_ix ix_seq o2_ix (sp_var (pv 4)) (SE.sp se_int) (fun _ _ => rfl)) (sa_cons (se_bt call_tuple_of f1_tuple (by rfl) nb.b_tuple (by decide +kernel) (spa_cons (SE.sp (se_ix ix_seq o2_ix (sp_var (pv 4)) (SE.sp se_int) (fun _ _ => rfl))) spa_nil)) sa_nil))) (sa_cons se_non (sa_cons (se_tup sa_nil) (sa_cons se_int (sa_cons (se_tup (sa_cons (se_ix ix_seq o2_ix (sp_var (pv 4)) (SE.sp se_int) (fun _ _ => rfl)) (sa_cons (SL.se (sl_lst sa_nil)) sa_nil))) (sa_cons (se_revA (sp_var (pv 4))) sa_nil)))))))))) (SE.sp (SL.se (sl_lc (own := [("turn", 9)]) rfl sc_law_papers_right.nd (SI.sip (si_range1 (by rfl) nb.b_range (SE.sp se_int))) (blkOk_by (N := N_law_papers_right) (sc := (defScope s_law_papers_right)) (by decide +kernel)) (fun _ _ _ _ _ => (sg_name (pg_name (i := 9) sc_law_papers_right.nd rfl (by first | exact .inl rfl | exact .inr rfl)))) (fun _ _ _ _ _ => sts_nil) (fun _ _ _ _ _ => (se_cG c_law_bent hG hr (by decide) (by rfl) (sa_cons (se_var (pv 0)) (sa_cons (se_var (pv 4)) sa_nil)))) (by decide))))))) (fun _ _ _ h => h))
  (ss_cons (s_for PassesOwn.never rfl (si_seq (se_var (pv 5))) (sg_name (pg_name (i := 6) sc_law_papers_right.nd rfl (by first | exact .inl rfl | exact .inr rfl)))
  (ss_cons (s_par (ps_par (by rfl) sc_law_papers_right.nd rfl rfl (by decide) rfl rfl (SA.pa (sa_cons (se_cG c_law_is_better hG hr (by decide) (by rfl) (sa_cons (se_var (pv 1)) (sa_cons (se_var (pv 2)) (sa_cons (se_var (pv 6)) sa_nil)))) (sa_cons (se_bi (cr_repr hG hr.units) f1_repr (by rfl) nb.b_repr (by decide +kernel) (spa_cons (sp_var (pv 6)) spa_nil)) sa_nil))) (by rfl)) (fun _ _ _ h => h))
  (ss_one (s_if (SW.st (sw_or (st_cmp (op_neD hr.units) c2_ne (SE.sp (se_bi (cr_repr hG hr.units) f1_repr (by rfl) nb.b_repr (by decide +kernel) (spa_cons (SE.sp (SL.se (sl_lst (sa_cons (se_cG c_is_better_choice hG hr (by decide) (by rfl) (sa_cons (se_var (pv 1)) (sa_cons (se_var (pv 2)) (sa_cons (se_var (pv 6)) sa_nil)))) (sa_cons (se_kG ck_is_better_choice_value_other_look hG hr (by decide) (by rfl) (sk_cons (se_var (pv 6)) (sk_cons (se_var (pv 2)) (sk_cons (se_var (pv 1)) sk_nil)))) sa_nil))))) spa_nil))) (SE.sp (se_bi (cr_repr hG hr.units) f1_repr (by rfl) nb.b_repr (by decide +kernel) (spa_cons (SE.sp (SL.se (sl_lst (sa_cons (se_var (pv 7)) (sa_cons (se_var (pv 7)) sa_nil))))) spa_nil))) (nomark _)) (sw_or1 (st_cmp (op_neD hr.units) c2_ne (SE.sp (se_bi (cr_repr hG hr.units) f1_repr (by rfl) nb.b_repr (by decide +kernel) (spa_cons (sp_var (pv 6)) spa_nil))) (sp_var (pv 8)) (nomark _)))))
  (ss_one (s_ret se_bl))
  ss_nil))))
  (ss_one (s_ret se_bl))))))
theorem ok_law_right (c_law_draw : CalG P w K mg base 1 "_law_draw" f_law_draw) (c_law_look : CalG P w K mg base 3 "_law_look" f_law_look) (c_law_lot : CalG P w K mg base 2 "_law_lot" f_law_lot) (c_law_acts : CalG P w K mg base 2 "_law_acts" f_law_acts) (c_law_looks_right : CalG P w K mg base 10 "_law_looks_right" f_law_looks_right) (c_law_papers_right : CalG P w K mg base 11 "_law_papers_right" f_law_papers_right) (c_law_garbled : CalG P w K mg base 4 "_law_garbled" f_law_garbled) (nb : Nb mg) : ∀ f fd, Fun K "_law_right" "_law_right" s_law_right f fd → FnG P w K mg base 12 f fd ["pot"] (spF K f_law_right) := fun f fd F => def_okG (m := b_law_right) 1 8 F sc_law_right rfl rfl fun cdv A outer s H E hcv hG hr =>
  (ss_cons (s_par (ps_par (by rfl) sc_law_right.nd rfl rfl (by decide) rfl rfl (SA.pa (sa_cons (se_op or_add o2_add (SE.sp se_int) (SE.sp (se_cG c_law_draw hG hr (by decide) (by rfl) (sa_cons (se_var (pv 0)) (sa_cons se_int sa_nil))))) (sa_cons (se_op or_add o2_add (SE.sp se_int) (SE.sp (se_cG c_law_draw hG hr (by decide) (by rfl) (sa_cons (se_var (pv 0)) (sa_cons se_int sa_nil))))) sa_nil))) (by rfl)) (fun _ _ _ h => h))
  (ss_cons (s_asgG (ps_asg (SE.pe (se_tup (sa_cons (se_cG c_law_look hG hr (by decide) (by rfl) (sa_cons (se_var (pv 0)) (sa_cons (se_var (pv 1)) (sa_cons (se_var (pv 2)) sa_nil)))) (sa_cons (se_op or_add o2_add (SE.sp se_int) (SE.sp (se_cG c_law_draw hG hr (by decide) (by rfl) (sa_cons (se_var (pv 0)) (sa_cons se_int sa_nil))))) sa_nil)))) (SG.pg (sg_tup rfl (sgs_cons (sg_name (pg_name (i := 3) sc_law_right.nd rfl (by first | exact .inl rfl | exact .inr rfl))) (sgs_cons (sg_name (pg_name (i := 4) sc_law_right.nd rfl (by first | exact .inl rfl | exact .inr rfl))) sgs_nil))))) (fun _ _ _ h => h) (fun _ _ _ _ h => h))
  (ss_cons (s_setLc (ps_lc (i := 5) (own := [("sign", 7)]) rfl sc_law_right.nd rfl rfl (sw_true rfl rfl rfl (by decide +kernel)) (SI.sip (si_range1 (by rfl) nb.b_range (sp_var (pv 2)))) (blkOk_by (N := N_law_right) (sc := (defScope s_law_right)) (by decide +kernel)) (fun _ _ _ _ _ => (sg_name (pg_name (i := 7) sc_law_right.nd rfl (by first | exact .inl rfl | exact .inr rfl)))) (fun _ _ _ _ _ => sts_nil) (fun _ _ _ _ _ => (se_cG c_law_lot hG hr (by decide) (by rfl) (sa_cons (se_var (pv 0)) (sa_cons (se_var (pv 4)) sa_nil)))) (by decide)))
  (ss_cons (s_asg (ps_set (i := 6) sc_law_right.nd rfl (by first | exact .inl rfl | exact .inr rfl) (SE.pe (se_tup (sa_cons (se_cG c_law_lot hG hr (by decide) (by rfl) (sa_cons (se_var (pv 0)) (sa_cons (se_var (pv 1)) sa_nil))) (sa_cons (se_cG c_law_acts hG hr (by decide) (by rfl) (sa_cons (se_var (pv 0)) (sa_cons (se_var (pv 1)) sa_nil))) sa_nil))))) (fun _ _ _ h => h))
  (ss_cons (s_if (SW.st (sw_or (st_not (st_val (SE.sp (se_cG c_law_looks_right hG hr (by decide) (by rfl) (sa_cons (se_var (pv 0)) (sa_cons (se_var (pv 3)) sa_nil)))))) (sw_or1 (st_not (st_val (SE.sp (se_cG c_law_papers_right hG hr (by decide) (by rfl) (sa_cons (se_var (pv 0)) (sa_cons (se_var (pv 3)) (sa_cons (se_cG c_law_garbled hG hr (by decide) (by rfl) (sa_cons (se_var (pv 3)) (sa_cons (se_var (pv 5)) sa_nil))) (sa_cons (se_var (pv 5)) (sa_cons (se_var (pv 6)) sa_nil))))))))))))
  (ss_one (s_ret se_bl))
  ss_nil)
  (ss_one (s_ret (se_cG c_law_papers_right hG hr (by decide) (by rfl) (sa_cons (se_var (pv 0)) (sa_cons (se_cG c_law_garbled hG hr (by decide) (by rfl) (sa_cons (se_var (pv 3)) (sa_cons (se_var (pv 5)) sa_nil))) (sa_cons (se_var (pv 3)) (sa_cons (se_var (pv 5)) (sa_cons (se_var (pv 6)) sa_nil)))))))))))))
theorem ok_law_pot (nb : Nb mg) : ∀ f fd, Fun K "_law_pot" "_law_pot" s_law_pot f fd → FnG P w K mg base 1 f fd ["script", "k"] (spF K f_law_pot) := fun f fd F => def_okG (m := b_law_pot) 2 3 F sc_law_pot rfl rfl fun cdv A outer s H E hcv hG hr =>
  (ss_cons (s_asg (ps_set (i := 2) sc_law_pot.nd rfl (by first | exact .inl rfl | exact .inr rfl) (SE.pe (se_if (st_cmp op_lt c2_int (sp_var (pv 1)) (SE.sp (se_bi cr_len f1_len (by rfl) nb.b_len (by decide +kernel) (spa_cons (sp_var (pv 0)) spa_nil))) (nomark _)) (se_bi call_abs f1_abs (by rfl) nb.b_abs (by decide +kernel) (spa_cons (SE.sp (se_ix ix_seq o2_ix (sp_var (pv 0)) (sp_var (pv 1)) (fun _ _ => rfl))) spa_nil)) (se_op or_add o2_add (SE.sp (se_op or_mul o2_mul (SE.sp se_int) (sp_var (pv 1)))) (SE.sp se_int))))) (fun _ _ _ h => h))
  (ss_one (s_retpot (sl_lst (sa_cons (se_bi (call_max2 rfl) f1_max2 (by rfl) nb.b_max (by decide +kernel) (spa_cons (SE.sp se_int) (spa_cons (SE.sp (se_op op_sub o2_sub (sp_var (pv 2)) (SE.sp (se_op op_pow o2_pow (SE.sp se_int) (SE.sp se_int))))) spa_nil))) (sa_cons (se_op or_add o2_add (SE.sp (se_op op_mod o2_mod (SE.sp (se_bt call_int1 f1_int (by rfl) nb.b_int (by decide +kernel) (spa_cons (SE.sp (se_op or_add o2_add (SE.sp (se_op or_add o2_add (SE.sp (se_op or_mul o2_mul (SE.sp (se_op op_mod o2_mod (SE.sp (se_bt call_int1 f1_int (by rfl) nb.b_int (by decide +kernel) (spa_cons (sp_var (pv 2)) spa_nil))) (SE.sp se_int))) (SE.sp se_int))) (SE.sp (se_op or_mul o2_mul (SE.sp se_int) (sp_var (pv 1)))))) (SE.sp se_int))) spa_nil))) (SE.sp se_int))) (SE.sp se_int)) sa_nil))))))
theorem ok_law (c_law_right : CalG P w K mg base 12 "_law_right" f_law_right) (c_law_pot : CalG P w K mg base 1 "_law_pot" f_law_pot) (nb : Nb mg) : ∀ f fd, Fun K "law" "law" s_law f fd → FnG P w K mg base 13 f fd ["script"] (spF K f_law) := fun f fd F => def_okG (m := b_law) 1 2 F sc_law rfl rfl fun cdv A outer s H E hcv hG hr =>
  (ss_one (s_ret (se_bi (cr_all rfl) f1_all (by rfl) nb.b_all (by decide +kernel) (spa_cons (SE.sp (SL.se (sl_lc (own := [("k", 1)]) rfl sc_law.nd (SI.sip (si_range1 (by rfl) nb.b_range (SE.sp (se_bi (call_max2 rfl) f1_max2 (by rfl) nb.b_max (by decide +kernel) (spa_cons (SE.sp se_int) (spa_cons (SE.sp (se_bi (call_min2 rfl) f1_min2 (by rfl) nb.b_min (by decide +kernel) (spa_cons (SE.sp se_int) (spa_cons (SE.sp (se_bi cr_len f1_len (by rfl) nb.b_len (by decide +kernel) (spa_cons (sp_var (pv 0)) spa_nil))) spa_nil)))) spa_nil)))))) (blkOk_by (N := N_law) (sc := (defScope s_law)) (by decide +kernel)) (fun _ _ _ _ _ => (sg_name (pg_name (i := 1) sc_law.nd rfl (by first | exact .inl rfl | exact .inr rfl)))) (fun _ _ _ _ _ => sts_nil) (fun _ _ _ _ _ => (se_cG c_law_right hG hr (by decide) (by rfl) (sa_cons (se_cG c_law_pot hG hr (by decide) (by rfl) (sa_cons (se_var (pv 0)) (sa_cons (se_var (pv 1)) sa_nil))) sa_nil))) (by decide)))) spa_nil))))
end
section
variable {P : Program} {w : World} {K : PySem.W.Frag} {mg : Str → Option Value} {base : Heap}
theorem all_ok (fns : Fns mg) (a_law_draw : At K mg "_law_draw" s_law_draw) (a_law_frac : At K mg "_law_frac" s_law_frac) (a_law_lot : At K mg "_law_lot" s_law_lot) (a_law_look : At K mg "_law_look" s_law_look) (a_law_acts : At K mg "_law_acts" s_law_acts) (a_law_pick : At K mg "_law_pick" s_law_pick) (a_law_bent : At K mg "_law_bent" s_law_bent) (a_law_is_list : At K mg "_law_is_list" s_law_is_list) (a_law_is_fraction : At K mg "_law_is_fraction" s_law_is_fraction) (a_law_plus : At K mg "_law_plus" s_law_plus) (a_law_sum : At K mg "_law_sum" s_law_sum) (a_law_is_lot : At K mg "_law_is_lot" s_law_is_lot) (a_law_is_look : At K mg "_law_is_look" s_law_is_look) (a_is_list : At K mg "is_list" s_is_list) (a_is_integer : At K mg "is_integer" s_is_integer) (a_divisor : At K mg "divisor" s_divisor) (a_is_fraction_of : At K mg "is_fraction_of" s_is_fraction_of) (a_reduced : At K mg "reduced" s_reduced) (a_add : At K mg "add" s_add) (a_total : At K mg "total" s_total) (a_is_lot_of : At K mg "is_lot_of" s_is_lot_of) (a_is_short : At K mg "is_short" s_is_short) (a_is_short_lot : At K mg "is_short_lot" s_is_short_lot) (a_are_lots : At K mg "are_lots" s_are_lots) (a_is_look_of : At K mg "is_look_of" s_is_look_of) (a_is_look : At K mg "is_look" s_is_look) (a_law_looks_right : At K mg "_law_looks_right" s_law_looks_right) (a_law_is_lot_like : At K mg "_law_is_lot_like" s_law_is_lot_like) (a_law_times : At K mg "_law_times" s_law_times) (a_law_garbled : At K mg "_law_garbled" s_law_garbled) (a_law_is_garbling : At K mg "_law_is_garbling" s_law_is_garbling) (a_check_look : At K mg "check_look" s_check_look) (a_check_looks : At K mg "check_looks" s_check_looks) (a_signs_of : At K mg "signs_of" s_signs_of) (a_multiply : At K mg "multiply" s_multiply) (a_products_sum : At K mg "products_sum" s_products_sum) (a_mixed_of : At K mg "mixed_of" s_mixed_of) (a_garbled_of : At K mg "garbled_of" s_garbled_of) (a_is_garbling_of : At K mg "is_garbling_of" s_is_garbling_of) (a_is_garbling : At K mg "is_garbling" s_is_garbling) (a_law_are_acts : At K mg "_law_are_acts" s_law_are_acts) (a_law_below : At K mg "_law_below" s_law_below) (a_law_worths : At K mg "_law_worths" s_law_worths) (a_law_greatest : At K mg "_law_greatest" s_law_greatest) (a_law_worth : At K mg "_law_worth" s_law_worth) (a_law_is_better : At K mg "_law_is_better" s_law_is_better) (a_are_acts : At K mg "are_acts" s_are_acts) (a_is_below : At K mg "is_below" s_is_below) (a_seen_with : At K mg "seen_with" s_seen_with) (a_gains_at : At K mg "gains_at" s_gains_at) (a_worth_by : At K mg "worth_by" s_worth_by) (a_best_of : At K mg "best_of" s_best_of) (a_plan_of : At K mg "plan_of" s_plan_of) (a_worth_of : At K mg "worth_of" s_worth_of) (a_is_better_choice : At K mg "is_better_choice" s_is_better_choice) (a_law_papers_right : At K mg "_law_papers_right" s_law_papers_right) (a_law_right : At K mg "_law_right" s_law_right) (a_law_pot : At K mg "_law_pot" s_law_pot) (a_law : At K mg "law" s_law) (k_MOST_ACTS : ConR K mg "MOST_ACTS" (.int 8)) (k_MOST_DIGITS : ConR K mg "MOST_DIGITS" (.int 1000000000000)) (k_MOST_PLACES : ConR K mg "MOST_PLACES" (.int 8)) (k_MOST_STATES : ConR K mg "MOST_STATES" (.int 6)) (k_NOUGHT : ConR K mg "NOUGHT" (.tup [(.int 0), (.int 1)])) (k_ONE : ConR K mg "ONE" (.tup [(.int 1), (.int 1)])) (nb : Nb mg) : ∀ f fd, Fun K "law" "law" s_law f fd → FnG P w K mg base 13 f fd ["script"] (spF K f_law) := by
  have kf_is_fraction_of : ConR K mg "is_fraction_of" (.fn 0) := con_fn fns 0 (by decide)
  have kf_is_lot_of : ConR K mg "is_lot_of" (.fn 1) := con_fn fns 1 (by decide)
  have kf_is_short_lot : ConR K mg "is_short_lot" (.fn 2) := con_fn fns 2 (by decide)
  have o_law_draw := ok_law_draw (P := P) (w := w) (K := K) (mg := mg) (base := base) nb
  have c_law_draw := calG_mk a_law_draw o_law_draw (fun _ _ _ _ _ _ us hl => match us, hl with | [_, _], _ => rfl)
  have o_law_frac := ok_law_frac (P := P) (w := w) (K := K) (mg := mg) (base := base) nb
  have c_law_frac := calG_mk a_law_frac o_law_frac (fun _ _ _ _ _ _ us hl => match us, hl with | [_, _], _ => rfl)
  have o_law_lot := ok_law_lot (P := P) (w := w) (K := K) (mg := mg) (base := base) c_law_draw c_law_frac nb
  have c_law_lot := calG_mk a_law_lot o_law_lot (fun _ _ _ _ _ _ us hl => match us, hl with | [_, _], _ => rfl)
  have o_law_look := ok_law_look (P := P) (w := w) (K := K) (mg := mg) (base := base) c_law_lot nb
  have c_law_look := calG_mk a_law_look o_law_look (fun _ _ _ _ _ _ us hl => match us, hl with | [_, _, _], _ => rfl)
  have o_law_acts := ok_law_acts (P := P) (w := w) (K := K) (mg := mg) (base := base) c_law_draw c_law_frac nb
  have c_law_acts := calG_mk a_law_acts o_law_acts (fun _ _ _ _ _ _ us hl => match us, hl with | [_, _], _ => rfl)
  have o_law_pick := ok_law_pick (P := P) (w := w) (K := K) (mg := mg) (base := base) c_law_draw nb
  have c_law_pick := calG_mk a_law_pick o_law_pick (fun _ _ _ _ _ _ us hl => match us, hl with | [_, _], _ => rfl)
  have c_law_bent_0 := calG_fail (P := P) (w := w) (base := base) (k := 3) (ps := ["pot", "value"]) a_law_bent (fun _ _ _ _ _ _ us hl => match us, hl with | [_, _], _ => rfl)
  have o_law_bent_1 := ok_law_bent_1 (P := P) (w := w) (K := K) (mg := mg) (base := base) c_law_draw c_law_pick nb c_law_bent_0
  have c_law_bent_1 := calG_mk a_law_bent o_law_bent_1 (fun _ _ _ _ _ _ us hl => match us, hl with | [_, _], _ => rfl)
  have o_law_bent_2 := ok_law_bent_2 (P := P) (w := w) (K := K) (mg := mg) (base := base) c_law_draw c_law_pick nb c_law_bent_1
  have c_law_bent_2 := calG_mk a_law_bent o_law_bent_2 (fun _ _ _ _ _ _ us hl => match us, hl with | [_, _], _ => rfl)
  have o_law_bent_3 := ok_law_bent_3 (P := P) (w := w) (K := K) (mg := mg) (base := base) c_law_draw c_law_pick nb c_law_bent_2
  have c_law_bent_3 := calG_mk a_law_bent o_law_bent_3 (fun _ _ _ _ _ _ us hl => match us, hl with | [_, _], _ => rfl)
  have o_law_bent_4 := ok_law_bent_4 (P := P) (w := w) (K := K) (mg := mg) (base := base) c_law_draw c_law_pick nb c_law_bent_3
  have c_law_bent_4 := calG_mk a_law_bent o_law_bent_4 (fun _ _ _ _ _ _ us hl => match us, hl with | [_, _], _ => rfl)
  have o_law_bent := ok_law_bent (P := P) (w := w) (K := K) (mg := mg) (base := base) c_law_draw c_law_pick nb c_law_bent_4
  have c_law_bent := calG_mk a_law_bent o_law_bent (fun _ _ _ _ _ _ us hl => match us, hl with | [_, _], _ => rfl)
  have o_law_is_list := ok_law_is_list (P := P) (w := w) (K := K) (mg := mg) (base := base) nb
  have c_law_is_list := calG_mk a_law_is_list o_law_is_list (fun _ _ _ _ _ _ us hl => match us, hl with | [_], _ => rfl)
  have o_law_is_fraction := ok_law_is_fraction (P := P) (w := w) (K := K) (mg := mg) (base := base) c_law_frac nb
  have c_law_is_fraction := calG_mk a_law_is_fraction o_law_is_fraction (fun _ _ _ _ _ _ us hl => match us, hl with | [_], _ => rfl)
  have o_law_plus := ok_law_plus (P := P) (w := w) (K := K) (mg := mg) (base := base) c_law_frac
  have c_law_plus := calG_mk a_law_plus o_law_plus (fun _ _ _ _ _ _ us hl => match us, hl with | [_, _], _ => rfl)
  have o_law_sum := ok_law_sum (P := P) (w := w) (K := K) (mg := mg) (base := base) c_law_plus
  have c_law_sum := calG_mk a_law_sum o_law_sum (fun _ _ _ _ _ _ us hl => match us, hl with | [_], _ => rfl)
  have o_law_is_lot := ok_law_is_lot (P := P) (w := w) (K := K) (mg := mg) (base := base) c_law_is_fraction c_law_sum nb
  have c_law_is_lot := calG_mk a_law_is_lot o_law_is_lot (fun _ _ _ _ _ _ us hl => match us, hl with | [_, _], _ => rfl)
  have o_law_is_look := ok_law_is_look (P := P) (w := w) (K := K) (mg := mg) (base := base) c_law_is_list c_law_is_lot nb
  have c_law_is_look := calG_mk a_law_is_look o_law_is_look (fun _ _ _ _ _ _ us hl => match us, hl with | [_], _ => rfl)
  have o_is_list := ok_is_list (P := P) (w := w) (K := K) (mg := mg) (base := base) nb
  have c_is_list := calG_mk a_is_list o_is_list (fun _ _ _ _ _ _ us hl => match us, hl with | [_], _ => rfl)
  have o_is_integer := ok_is_integer (P := P) (w := w) (K := K) (mg := mg) (base := base) nb
  have c_is_integer := calG_mk a_is_integer o_is_integer (fun _ _ _ _ _ _ us hl => match us, hl with | [_], _ => rfl)
  have o_divisor := ok_divisor (P := P) (w := w) (K := K) (mg := mg) (base := base) nb
  have c_divisor := calG_mk a_divisor o_divisor (fun _ _ _ _ _ _ us hl => match us, hl with | [_, _], _ => rfl)
  have o_is_fraction_of := ok_is_fraction_of (P := P) (w := w) (K := K) (mg := mg) (base := base) c_is_integer c_divisor nb
  have c_is_fraction_of := calG_mk a_is_fraction_of o_is_fraction_of (fun _ _ _ _ _ _ us hl => match us, hl with | [_], _ => rfl)
  have o_reduced := ok_reduced (P := P) (w := w) (K := K) (mg := mg) (base := base) c_divisor nb
  have c_reduced := calG_mk a_reduced o_reduced (fun _ _ _ _ _ _ us hl => match us, hl with | [_, _], _ => rfl)
  have o_add := ok_add (P := P) (w := w) (K := K) (mg := mg) (base := base) c_reduced
  have c_add := calG_mk a_add o_add (fun _ _ _ _ _ _ us hl => match us, hl with | [_, _], _ => rfl)
  have o_total := ok_total (P := P) (w := w) (K := K) (mg := mg) (base := base) c_add k_NOUGHT
  have c_total := calG_mk a_total o_total (fun _ _ _ _ _ _ us hl => match us, hl with | [_], _ => rfl)
  have o_is_lot_of := ok_is_lot_of (P := P) (w := w) (K := K) (mg := mg) (base := base) c_is_fraction_of c_total k_MOST_PLACES k_ONE nb
  have c_is_lot_of := calG_mk a_is_lot_of o_is_lot_of (fun _ _ _ _ _ _ us hl => match us, hl with | [_], _ => rfl)
  have o_is_short := ok_is_short (P := P) (w := w) (K := K) (mg := mg) (base := base) c_is_fraction_of k_MOST_DIGITS nb
  have c_is_short := calG_mk a_is_short o_is_short (fun _ _ _ _ _ _ us hl => match us, hl with | [_], _ => rfl)
  have o_is_short_lot := ok_is_short_lot (P := P) (w := w) (K := K) (mg := mg) (base := base) c_is_lot_of c_is_short nb
  have c_is_short_lot := calG_mk a_is_short_lot o_is_short_lot (fun _ _ _ _ _ _ us hl => match us, hl with | [_], _ => rfl)
  have o_are_lots := ok_are_lots (P := P) (w := w) (K := K) (mg := mg) (base := base) c_is_list c_is_fraction_of c_is_lot_of c_is_short_lot fns nb
  have c_are_lots := calG_mk a_are_lots o_are_lots (fun _ _ _ _ _ _ us hl => match us, hl with | [_, _], _ => rfl)
  have o_is_look_of := ok_is_look_of (P := P) (w := w) (K := K) (mg := mg) (base := base) c_are_lots k_MOST_STATES kf_is_lot_of nb
  have c_is_look_of := calG_mk a_is_look_of o_is_look_of (fun _ _ _ _ _ _ us hl => match us, hl with | [_], _ => rfl)
  have o_is_look := ok_is_look (P := P) (w := w) (K := K) (mg := mg) (base := base) c_is_look_of
  have c_is_look := calG_mk a_is_look o_is_look (fun _ _ _ _ _ _ us hl => match us, hl with | [_], _ => rfl)
  have ck_is_look_value : CalKG P w K mg base 9 "is_look" f_is_look ["value"] [0] := kwG_of a_is_look o_is_look (fun _ _ _ _ _ _ ws hl => match ws, hl with | _ :: _, _ => rfl | [], h => by simp at h)
  have o_law_looks_right := ok_law_looks_right (P := P) (w := w) (K := K) (mg := mg) (base := base) c_law_bent c_law_is_look c_is_look ck_is_look_value nb
  have c_law_looks_right := calG_mk a_law_looks_right o_law_looks_right (fun _ _ _ _ _ _ us hl => match us, hl with | [_, _], _ => rfl)
  have o_law_is_lot_like := ok_law_is_lot_like (P := P) (w := w) (K := K) (mg := mg) (base := base) c_law_is_lot nb
  have c_law_is_lot_like := calG_mk a_law_is_lot_like o_law_is_lot_like (fun _ _ _ _ _ _ us hl => match us, hl with | [_, _], _ => rfl)
  have o_law_times := ok_law_times (P := P) (w := w) (K := K) (mg := mg) (base := base) c_law_frac
  have c_law_times := calG_mk a_law_times o_law_times (fun _ _ _ _ _ _ us hl => match us, hl with | [_, _], _ => rfl)
  have o_law_garbled := ok_law_garbled (P := P) (w := w) (K := K) (mg := mg) (base := base) c_law_sum c_law_times nb
  have c_law_garbled := calG_mk a_law_garbled o_law_garbled (fun _ _ _ _ _ _ us hl => match us, hl with | [_, _], _ => rfl)
  have o_law_is_garbling := ok_law_is_garbling (P := P) (w := w) (K := K) (mg := mg) (base := base) c_law_is_list c_law_is_lot_like c_law_garbled nb
  have c_law_is_garbling := calG_mk a_law_is_garbling o_law_is_garbling (fun _ _ _ _ _ _ us hl => match us, hl with | [_, _, _], _ => rfl)
  have o_check_look := ok_check_look (P := P) (w := w) (K := K) (mg := mg) (base := base) c_are_lots k_MOST_STATES kf_is_short_lot nb
  have c_check_look := calG_mk a_check_look o_check_look (fun _ _ _ _ _ _ us hl => match us, hl with | [_], _ => rfl)
  have o_check_looks := ok_check_looks (P := P) (w := w) (K := K) (mg := mg) (base := base) c_check_look nb
  have c_check_looks := calG_mk a_check_looks o_check_looks (fun _ _ _ _ _ _ us hl => match us, hl with | [_, _], _ => rfl)
  have o_signs_of := ok_signs_of (P := P) (w := w) (K := K) (mg := mg) (base := base) nb
  have c_signs_of := calG_mk a_signs_of o_signs_of (fun _ _ _ _ _ _ us hl => match us, hl with | [_], _ => rfl)
  have o_multiply := ok_multiply (P := P) (w := w) (K := K) (mg := mg) (base := base) c_reduced
  have c_multiply := calG_mk a_multiply o_multiply (fun _ _ _ _ _ _ us hl => match us, hl with | [_, _], _ => rfl)
  have o_products_sum := ok_products_sum (P := P) (w := w) (K := K) (mg := mg) (base := base) c_total c_multiply nb
  have c_products_sum := calG_mk a_products_sum o_products_sum (fun _ _ _ _ _ _ us hl => match us, hl with | [_, _], _ => rfl)
  have o_mixed_of := ok_mixed_of (P := P) (w := w) (K := K) (mg := mg) (base := base) c_products_sum nb
  have c_mixed_of := calG_mk a_mixed_of o_mixed_of (fun _ _ _ _ _ _ us hl => match us, hl with | [_, _], _ => rfl)
  have o_garbled_of := ok_garbled_of (P := P) (w := w) (K := K) (mg := mg) (base := base) c_mixed_of
  have c_garbled_of := calG_mk a_garbled_of o_garbled_of (fun _ _ _ _ _ _ us hl => match us, hl with | [_, _], _ => rfl)
  have o_is_garbling_of := ok_is_garbling_of (P := P) (w := w) (K := K) (mg := mg) (base := base) c_are_lots c_signs_of c_garbled_of kf_is_lot_of nb
  have c_is_garbling_of := calG_mk a_is_garbling_of o_is_garbling_of (fun _ _ _ _ _ _ us hl => match us, hl with | [_, _, _], _ => rfl)
  have o_is_garbling := ok_is_garbling (P := P) (w := w) (K := K) (mg := mg) (base := base) c_check_looks c_is_garbling_of
  have c_is_garbling := calG_mk a_is_garbling o_is_garbling (fun _ _ _ _ _ _ us hl => match us, hl with | [_, _, _], _ => rfl)
  have ck_is_garbling_value_other_look : CalKG P w K mg base 10 "is_garbling" f_is_garbling ["value", "other", "look"] [2, 1, 0] := kwG_of a_is_garbling o_is_garbling (fun _ _ _ _ _ _ ws hl => match ws, hl with | _ :: _ :: _ :: _, _ => rfl | [], h => by simp at h | [_], h => by simp at h | [_, _], h => by simp at h)
  have o_law_are_acts := ok_law_are_acts (P := P) (w := w) (K := K) (mg := mg) (base := base) c_law_is_list c_law_is_fraction nb
  have c_law_are_acts := calG_mk a_law_are_acts o_law_are_acts (fun _ _ _ _ _ _ us hl => match us, hl with | [_, _], _ => rfl)
  have o_law_below := ok_law_below (P := P) (w := w) (K := K) (mg := mg) (base := base) 
  have c_law_below := calG_mk a_law_below o_law_below (fun _ _ _ _ _ _ us hl => match us, hl with | [_, _], _ => rfl)
  have o_law_worths := ok_law_worths (P := P) (w := w) (K := K) (mg := mg) (base := base) c_law_times c_law_sum nb
  have c_law_worths := calG_mk a_law_worths o_law_worths (fun _ _ _ _ _ _ us hl => match us, hl with | [_, _, _], _ => rfl)
  have o_law_greatest := ok_law_greatest (P := P) (w := w) (K := K) (mg := mg) (base := base) c_law_below
  have c_law_greatest := calG_mk a_law_greatest o_law_greatest (fun _ _ _ _ _ _ us hl => match us, hl with | [_], _ => rfl)
  have o_law_worth := ok_law_worth (P := P) (w := w) (K := K) (mg := mg) (base := base) c_law_sum c_law_worths c_law_greatest
  have c_law_worth := calG_mk a_law_worth o_law_worth (fun _ _ _ _ _ _ us hl => match us, hl with | [_, _, _], _ => rfl)
  have o_law_is_better := ok_law_is_better (P := P) (w := w) (K := K) (mg := mg) (base := base) c_law_is_lot_like c_law_are_acts c_law_below c_law_worth nb
  have c_law_is_better := calG_mk a_law_is_better o_law_is_better (fun _ _ _ _ _ _ us hl => match us, hl with | [_, _, _], _ => rfl)
  have o_are_acts := ok_are_acts (P := P) (w := w) (K := K) (mg := mg) (base := base) c_is_list c_is_fraction_of c_is_lot_of c_is_short_lot k_MOST_ACTS fns nb
  have c_are_acts := calG_mk a_are_acts o_are_acts (fun _ _ _ _ _ _ us hl => match us, hl with | [_, _, _], _ => rfl)
  have o_is_below := ok_is_below (P := P) (w := w) (K := K) (mg := mg) (base := base) 
  have c_is_below := calG_mk a_is_below o_is_below (fun _ _ _ _ _ _ us hl => match us, hl with | [_, _], _ => rfl)
  have o_seen_with := ok_seen_with (P := P) (w := w) (K := K) (mg := mg) (base := base) c_multiply nb
  have c_seen_with := calG_mk a_seen_with o_seen_with (fun _ _ _ _ _ _ us hl => match us, hl with | [_, _, _], _ => rfl)
  have o_gains_at := ok_gains_at (P := P) (w := w) (K := K) (mg := mg) (base := base) c_seen_with c_products_sum
  have c_gains_at := calG_mk a_gains_at o_gains_at (fun _ _ _ _ _ _ us hl => match us, hl with | [_, _, _, _], _ => rfl)
  have o_worth_by := ok_worth_by (P := P) (w := w) (K := K) (mg := mg) (base := base) c_total c_gains_at nb
  have c_worth_by := calG_mk a_worth_by o_worth_by (fun _ _ _ _ _ _ us hl => match us, hl with | [_, _, _, _], _ => rfl)
  have o_best_of := ok_best_of (P := P) (w := w) (K := K) (mg := mg) (base := base) c_is_below nb
  have c_best_of := calG_mk a_best_of o_best_of (fun _ _ _ _ _ _ us hl => match us, hl with | [_], _ => rfl)
  have o_plan_of := ok_plan_of (P := P) (w := w) (K := K) (mg := mg) (base := base) c_signs_of c_best_of c_gains_at nb
  have c_plan_of := calG_mk a_plan_of o_plan_of (fun _ _ _ _ _ _ us hl => match us, hl with | [_, _, _], _ => rfl)
  have o_worth_of := ok_worth_of (P := P) (w := w) (K := K) (mg := mg) (base := base) c_worth_by c_plan_of
  have c_worth_of := calG_mk a_worth_of o_worth_of (fun _ _ _ _ _ _ us hl => match us, hl with | [_, _, _], _ => rfl)
  have o_is_better_choice := ok_is_better_choice (P := P) (w := w) (K := K) (mg := mg) (base := base) c_check_looks c_is_lot_of c_are_acts c_is_below c_worth_of kf_is_fraction_of nb
  have c_is_better_choice := calG_mk a_is_better_choice o_is_better_choice (fun _ _ _ _ _ _ us hl => match us, hl with | [_, _, _], _ => rfl)
  have ck_is_better_choice_value_other_look : CalKG P w K mg base 10 "is_better_choice" f_is_better_choice ["value", "other", "look"] [2, 1, 0] := kwG_of a_is_better_choice o_is_better_choice (fun _ _ _ _ _ _ ws hl => match ws, hl with | _ :: _ :: _ :: _, _ => rfl | [], h => by simp at h | [_], h => by simp at h | [_, _], h => by simp at h)
  have o_law_papers_right := ok_law_papers_right (P := P) (w := w) (K := K) (mg := mg) (base := base) c_law_bent c_law_is_garbling c_is_garbling c_law_is_better c_is_better_choice ck_is_garbling_value_other_look ck_is_better_choice_value_other_look nb
  have c_law_papers_right := calG_mk a_law_papers_right o_law_papers_right (fun _ _ _ _ _ _ us hl => match us, hl with | [_, _, _, _, _], _ => rfl)
  have o_law_right := ok_law_right (P := P) (w := w) (K := K) (mg := mg) (base := base) c_law_draw c_law_look c_law_lot c_law_acts c_law_looks_right c_law_papers_right c_law_garbled nb
  have c_law_right := calG_mk a_law_right o_law_right (fun _ _ _ _ _ _ us hl => match us, hl with | [_], _ => rfl)
  have o_law_pot := ok_law_pot (P := P) (w := w) (K := K) (mg := mg) (base := base) nb
  have c_law_pot := calG_mk a_law_pot o_law_pot (fun _ _ _ _ _ _ us hl => match us, hl with | [_, _], _ => rfl)
  have o_law := ok_law (P := P) (w := w) (K := K) (mg := mg) (base := base) c_law_right c_law_pot nb
  exact o_law
end
end Law

set_option maxRecDepth 100000
set_option linter.all false
namespace R
open PySem
open L2
theorem bind_leaf {α β : Type} (a : α) (f : α → Tree β) : (Tree.leaf a).bind f = f a := Eq.trans rfl rfl
theorem bind_fail {α β : Type} (f : α → Tree β) : (Tree.fail : Tree α).bind f = .fail := Eq.trans rfl rfl
theorem bind_draw {α β : Type} (n : Nat) (k : Nat → Tree α) (f : α → Tree β) : (Tree.draw n k).bind f = .draw n fun i => (k i).bind f := rfl
theorem mPeek_z (s : Slot) (E : En) : mPeek 0 (some s :: E) = .leaf s.d := rfl
theorem mPeek_s (i : Nat) (x : Option Slot) (E : En) : mPeek (i + 1) (x :: E) = mPeek i E := rfl
theorem mVar_z (d : D) (E : En) : mVar 0 (some ⟨false, d⟩ :: E) = .leaf d := rfl
theorem mVar_s (i : Nat) (x : Option Slot) (E : En) : mVar (i + 1) (x :: E) = mVar i E := rfl
theorem put_z (d : D) (x : Option Slot) (E : En) : En.put (x :: E) 0 d = some ⟨false, d⟩ :: E := rfl
theorem put_s (i : Nat) (d : D) (x : Option Slot) (E : En) : En.put (x :: E) (i + 1) d = x :: En.put E i d := rfl
theorem putOwn_z (d : D) (x : Option Slot) (E : En) : En.putOwn (x :: E) 0 d = some ⟨true, d⟩ :: E := rfl
theorem putOwn_s (i : Nat) (d : D) (x : Option Slot) (E : En) : En.putOwn (x :: E) (i + 1) d = x :: En.putOwn E i d := rfl
def wset (E : En) (v : Nat) : En := E.set v none
theorem wipe_n (E : En) : wipeE E [] = E := rfl
theorem wipe_c (v : Nat) (vs : List Nat) (E : En) : wipeE E (v :: vs) = wset (wipeE E vs) v := rfl
theorem wset_z (x : Option Slot) (E : En) : wset (x :: E) 0 = none :: E := rfl
theorem wset_s (v : Nat) (x : Option Slot) (E : En) : wset (x :: E) (v + 1) = x :: wset E v := rfl
theorem lineOk_s {α : Type} (n : Nat) (t : Tree α) (h : n ≤ 100) : lineOk n t = t := if_pos (Nat.le_trans h (by decide))
def BA : Nat := 2 ^ 4000
def BB : Nat := 2 ^ 8001
theorem bab : BA * BA + BA * BA = BB := by decide +kernel
theorem ba_pos : 1000 < BA := by decide +kernel
theorem ba_le : BA ≤ BB := by decide +kernel
theorem log_bb {n : Nat} (h : n < BB) : n.log2 < 8001 := by
  by_cases e : n = 0
  · rw [e]; decide
  · exact (Nat.log2_lt e).mpr h
theorem mulB_s {i j : Int} (hi : i.natAbs < BB) (hj : j.natAbs < BB) : mulB i j = true := by
  have h1 := log_bb hi
  have h2 := log_bb hj
  unfold mulB
  exact decide_eq_true (by omega)
theorem divB_s {i j : Int} (h0 : 0 < j) (hj : j.natAbs < BB) : divB i j = true := by
  have h2 := log_bb hj
  unfold divB
  rw [decide_eq_true h0, decide_eq_true (show j.natAbs.log2 < 9000 by omega)]; rfl
theorem opMul_i {i j : Int} (hi : i.natAbs < BB) (hj : j.natAbs < BB) : opMul (.int i) (.int j) = .leaf (.int (i * j)) := if_pos (mulB_s hi hj)
theorem opDiv_i {i j : Int} (h0 : 0 < j) (hj : j.natAbs < BB) : opDiv (.int i) (.int j) = .leaf (.int (i / j)) := if_pos (divB_s h0 hj)
theorem opMod_i {i j : Int} (h0 : 0 < j) : opMod (.int i) (.int j) = .leaf (.int (i % j)) := if_pos (decide_eq_true h0)
theorem opAdd_i (i j : Int) : opAdd (.int i) (.int j) = .leaf (.int (i + j)) := rfl
theorem opSub_i (i j : Int) : opSub (.int i) (.int j) = .leaf (.int (i - j)) := rfl
theorem opNeg_i (i : Int) : opNeg (.int i) = .leaf (.int (-i)) := rfl
theorem cLt_i (i j : Int) : cLt (.int i) (.int j) = .leaf (decide (i < j)) := rfl
theorem cLe_i (i j : Int) : cLe (.int i) (.int j) = .leaf (decide (i ≤ j)) := rfl
theorem cGt_i (i j : Int) : cGt (.int i) (.int j) = .leaf (decide (j < i)) := rfl
theorem cGe_i (i j : Int) : cGe (.int i) (.int j) = .leaf (decide (j ≤ i)) := rfl
theorem cEq_i (i j : Int) : cEq (.int i) (.int j) = .leaf (i == j) := rfl
theorem cNe_i (i j : Int) : cNe (.int i) (.int j) = .leaf (!(i == j)) := rfl
theorem fInt_i (i : Int) : fInt [.int i] = .leaf (.int i) := rfl
theorem fAbs_i (i : Int) : fAbs [.int i] = .leaf (.int (if i < 0 then -i else i)) := rfl
theorem ix0 (a : D) (l : List D) : opIx (.tup (a :: l)) (.int 0) = .leaf a := by
  show ixO _ _ _ = _
  simp [ixO, atI, ixN]
theorem ix1 (a b : D) (l : List D) : opIx (.tup (a :: b :: l)) (.int 1) = .leaf b := by
  have h : atI (a :: b :: l) 1 = some b := by
    unfold atI ixN
    simp only [List.length_cons]
    rw [if_pos (by omega), if_pos (by omega)]
    rfl
  show ixO _ _ _ = _
  unfold ixO
  rw [h]
theorem lineOk_1 {α : Type} (t : Tree α) : lineOk 1 t = t := lineOk_s _ _ (by omega)
theorem lineOk_2 {α : Type} (t : Tree α) : lineOk 2 t = t := lineOk_s _ _ (by omega)
theorem lineOk_3 {α : Type} (t : Tree α) : lineOk 3 t = t := lineOk_s _ _ (by omega)
theorem asB_b (b : Bool) : asB (.bl b) = .leaf b := rfl
theorem fLen_t (xs : List D) : fLen [.tup xs] = .leaf (.int xs.length) := rfl
theorem fLen_l (xs : List D) : fLen [.lst xs] = .leaf (.int xs.length) := rfl
end R
namespace Law
open R PySem L2
local macro_rules | `(tactic| walk_at "ev") => `(tactic| simp only [mDef, En.start, oSeq, oIf, oRet, oSet, oPar, oNx, oFail, oEx, m2, m1, mA, aCons, aNil, mB, mC, mCh, mT, mNot, mAnd, mOr, mAndV, mOrV, mNotV, mIf, mTup, mLst, mList, asB_b, bind_leaf, bind_fail, lineOk_1, lineOk_2, lineOk_3, mPeek_z, mPeek_s, mVar_z, mVar_s, put_z, put_s, opAdd_i, opSub_i, opNeg_i, cLt_i, cLe_i, cGt_i, cGe_i, cEq_i, cNe_i, fAbs_i, fInt_i, fLen_t, fLen_l, ix0, ix1, Bool.false_eq_true, Bool.not_true, Bool.not_false,
  List.length_cons, List.length_nil, List.map_cons, List.map_nil, List.cons_append, List.nil_append, List.replicate, Nat.reduceAdd, Nat.reduceSub, Nat.zero_add, if_true, if_false, ↓reduceIte])
theorem divisor_loop : ∀ (f a b : Nat), b < f → oWhile (mC cGt (mPeek 1) (fun _ => .leaf (.int 0))) (oPar 0 1 (aCons (mVar 1) (aCons (m2 opMod (mA fInt (aCons (mPeek 0) aNil)) (mPeek 1)) aNil))) f [some ⟨false, .int a⟩, some ⟨false, .int b⟩] = .leaf (.nx [some ⟨false, .int (Nat.gcd a b : Nat)⟩, some ⟨false, .int 0⟩])
  | 0, a, b, h => by omega
  | f + 1, a, b, h => by
    unfold oWhile
    by_cases e : b = 0
    · subst e
      walk_at "ev"
      simp
    · have hb : (0 : Int) < b := by omega
      walk_at "ev"
      rw [decide_eq_true hb]
      walk_at "ev"
      rw [opMod_i hb]
      walk_at "ev"
      rw [show ((a : Int) % (b : Int)) = ((a % b : Nat) : Int) from rfl, divisor_loop f b (a % b) (by have := Nat.mod_lt a (Nat.pos_of_ne_zero e); omega), show Nat.gcd a b = Nat.gcd b (a % b) by rw [Nat.gcd_comm a b, Nat.gcd_rec b a, Nat.gcd_comm]]
theorem divisor_eq {a b : Int} (h : 0 ≤ a) (hb : 0 ≤ b) (hf : b.natAbs < BB) : f_divisor [.int a, .int b] = .leaf (.int (Int.gcd a b)) := by
  obtain ⟨a, rfl⟩ := Int.eq_ofNat_of_zero_le h
  obtain ⟨b, rfl⟩ := Int.eq_ofNat_of_zero_le hb
  have := divisor_loop FUEL a b (Nat.lt_trans (show b < BB by omega) (by decide +kernel))
  unfold f_divisor b_divisor
  walk_at "ev"
  rw [this]
  walk_at "ev"
  rfl
/-- t / b in lowest terms -/
def fq (t b : Int) : D := .tup [.int (t / (Int.gcd t b : Int)), .int (b / (Int.gcd t b : Int))]
theorem gcd_pos' {t b : Int} (h : b ≠ 0) : (0 : Int) < Int.gcd t b := by
  have := Int.gcd_pos_of_ne_zero_right t h
  omega
theorem gcd_le' {t b : Int} (h : b ≠ 0) : (Int.gcd t b : Int) ≤ b.natAbs := by
  have := Int.gcd_dvd_right (a := t) (b := b)
  have h2 : Int.gcd t b ∣ b.natAbs := Int.natAbs_dvd_natAbs.mpr this
  have := Nat.le_of_dvd (by omega) h2
  omega
theorem abs_gcd (t b : Int) : Int.gcd (if t < 0 then -t else t) b = Int.gcd t b := by
  split
  · exact Int.neg_gcd
  · rfl
theorem reduced_eq {t b : Int} (hb : 0 < b) (h1 : b.natAbs < BB) : f_reduced [.int t, .int b] = .leaf (fq t b) := by
  have hg := gcd_pos' (t := t) (b := b) (by omega)
  have hl := gcd_le' (t := t) (b := b) (by omega)
  have hd : f_divisor [.int (if t < 0 then -t else t), .int b] = .leaf (.int (Int.gcd t b)) := by
    rw [divisor_eq (by split <;> omega) (by omega) h1, abs_gcd]
  unfold f_reduced b_reduced
  walk_at "ev"
  rw [decide_eq_false (by omega : ¬ b < 0)]
  walk_at "ev"
  rw [hd]
  walk_at "ev"
  rw [opDiv_i hg (by omega), opDiv_i hg (by omega)]
  walk_at "ev"
  rfl
theorem fq_scale (t b : Int) {k : Int} (hk : 0 < k) : fq (t * k) (b * k) = fq t b := by
  have e : (Int.gcd (t * k) (b * k) : Int) = (Int.gcd t b : Int) * k := by
    rw [Int.gcd_mul_right]
    rw [Int.natCast_mul, Int.natAbs_of_nonneg (Int.le_of_lt hk)]
  unfold fq
  rw [e, Int.mul_ediv_mul_of_pos_left _ _ hk, Int.mul_ediv_mul_of_pos_left _ _ hk]
theorem fq_cross {t b t' b' : Int} (hb : 0 < b) (hb' : 0 < b') (h : t * b' = t' * b) : fq t b = fq t' b' := by
  rw [← fq_scale t b hb', h, Int.mul_comm b b', fq_scale t' b' hb]
/-- the parts of a fraction in lowest terms -/
theorem fq_parts (t b : Int) (hb : 0 < b) : ∃ p q g : Int, fq t b = .tup [.int p, .int q] ∧ 0 < q ∧ 0 < g ∧ t = p * g ∧ b = q * g ∧ q ≤ b ∧ p.natAbs ≤ t.natAbs ∧ Int.gcd p q = 1 := by
  have hg := gcd_pos' (t := t) (b := b) (by omega)
  have e1 : t / (Int.gcd t b : Int) * (Int.gcd t b : Int) = t := Int.ediv_mul_cancel (Int.gcd_dvd_left ..)
  have e2 : b / (Int.gcd t b : Int) * (Int.gcd t b : Int) = b := Int.ediv_mul_cancel (Int.gcd_dvd_right ..)
  generalize hgg : (Int.gcd t b : Int) = g at *
  refine ⟨t / g, b / g, g, by unfold fq; rw [hgg], ?_, hg, e1.symm, e2.symm, ?_, ?_, ?_⟩
  · generalize b / g = q at *
    rcases (by omega : 0 < q ∨ q ≤ 0) with z | z
    · exact z
    · have := Int.mul_le_mul_of_nonneg_right z (Int.le_of_lt hg)
      omega
  · exact Int.ediv_le_self g (Int.le_of_lt hb)
  · exact Int.natAbs_ediv_le_natAbs t g
  · have h := Int.gcd_ediv_gcd_ediv_gcd (i := t) (j := b) (Int.gcd_pos_of_ne_zero_right t (by omega))
    rwa [hgg] at h
theorem fq_of {p q : Int} (h : Int.gcd p q = 1) : fq p q = .tup [.int p, .int q] := by
  unfold fq
  rw [h]
  simp
theorem nmul {a b : Int} {m n : Nat} (ha : a.natAbs < m) (hb : b.natAbs < n) : (a * b).natAbs < m * n := by
  rw [Int.natAbs_mul]
  exact Nat.mul_lt_mul_of_lt_of_le ha (Nat.le_of_lt hb) (by omega)
theorem add_eq {a b c d : Int} (hb : 0 < b) (hd : 0 < d) (la : a.natAbs < BA) (lb : b.natAbs < BA) (lc : c.natAbs < BA) (ld : d.natAbs < BA) : f_add [.tup [.int a, .int b], .tup [.int c, .int d]] = .leaf (fq (a * d + c * b) (b * d)) := by
  have h1 := Int.mul_pos hb hd
  have h2 := nmul lb ld
  have hB := bab
  have hL := ba_le
  unfold f_add b_add
  walk_at "ev"
  rw [opMul_i (by omega) (by omega), opMul_i (by omega) (by omega), opMul_i (by omega) (by omega)]
  walk_at "ev"
  rw [reduced_eq h1 (by omega)]
  walk_at "ev"
theorem multiply_eq {a b c d : Int} (hb : 0 < b) (hd : 0 < d) (la : a.natAbs < BA) (lb : b.natAbs < BA) (lc : c.natAbs < BA) (ld : d.natAbs < BA) : f_multiply [.tup [.int a, .int b], .tup [.int c, .int d]] = .leaf (fq (a * c) (b * d)) := by
  have h1 := Int.mul_pos hb hd
  have h2 := nmul lb ld
  have hB := bab
  have hL := ba_le
  unfold f_multiply b_multiply
  walk_at "ev"
  rw [opMul_i (by omega) (by omega), opMul_i (by omega) (by omega)]
  walk_at "ev"
  rw [reduced_eq h1 (by omega)]
  walk_at "ev"
theorem below_eq {a b c d : Int} (la : a.natAbs < BA) (lb : b.natAbs < BA) (lc : c.natAbs < BA) (ld : d.natAbs < BA) : f_is_below [.tup [.int a, .int b], .tup [.int c, .int d]] = .leaf (.bl (decide (a * d < c * b))) := by
  have hL := ba_le
  unfold f_is_below b_is_below
  walk_at "ev"
  rw [opMul_i (by omega) (by omega), opMul_i (by omega) (by omega)]
  walk_at "ev"
end Law

set_option maxRecDepth 100000
set_option linter.all false
namespace Law
open R PySem L2
/-- a fraction as data -/
def fr (q : Rat) : D := .tup [.int q.num, .int q.den]
theorem fr_fq (q : Rat) : fr q = fq q.num q.den := (fq_of (p := q.num) (q := (q.den : Int)) (by have := q.reduced; exact this)).symm
theorem den_pos' (q : Rat) : (0 : Int) < q.den := by have := q.den_nz; omega
theorem rat_mul_den (q : Rat) : q * (q.den : Int) = (q.num : Rat) := by
  have h : q = (q.num : Rat) / ((q.den : Int) : Rat) := by rw [← Rat.divInt_eq_div, Rat.num_divInt_den]
  have h0 : ((q.den : Int) : Rat) ≠ 0 := by
    intro e
    have : (q.den : Int) = 0 := by exact_mod_cast e
    have := q.den_nz
    omega
  have h1 : (q.num : Rat) / ((q.den : Int) : Rat) * ((q.den : Int) : Rat) = (q.num : Rat) := by grind
  rwa [← h] at h1
theorem cast_ne {b : Int} (h : b ≠ 0) : (b : Rat) ≠ 0 := fun e => h (by exact_mod_cast e)
theorem fq_fr {t b : Int} (hb : 0 < b) : fq t b = fr ((t : Rat) / (b : Rat)) := by
  have hb' := cast_ne (show b ≠ 0 by omega)
  generalize hq : (t : Rat) / (b : Rat) = q
  have e : q * b = t := by grind
  have e2 := rat_mul_den q
  rw [fr_fq]
  refine fq_cross hb (den_pos' q) ?_
  have : (t : Rat) * ((q.den : Int) : Rat) = (q.num : Rat) * (b : Rat) := by rw [← e, ← e2]; grind
  exact_mod_cast this
theorem fr_inj {p q : Rat} (h : fr p = fr q) : p = q := by
  unfold fr at h
  simp only [D.tup.injEq, List.cons.injEq, D.int.injEq, and_true] at h
  exact Rat.ext h.1 (by have := h.2; omega)
/-- sizes -/
def Sz (n : Nat) (q : Rat) : Prop := q.num.natAbs < 2 ^ n ∧ q.den < 2 ^ n
theorem Sz.mono {n m : Nat} {q : Rat} (h : Sz n q) (hn : n ≤ m) : Sz m q := ⟨Nat.lt_of_lt_of_le h.1 (Nat.pow_le_pow_right (by omega) hn), Nat.lt_of_lt_of_le h.2 (Nat.pow_le_pow_right (by omega) hn)⟩
theorem sz_div {n : Nat} {t b : Int} (hb : 0 < b) (h1 : t.natAbs < 2 ^ n) (h2 : b.natAbs < 2 ^ n) : Sz n ((t : Rat) / (b : Rat)) := by
  obtain ⟨p, q, g, e, h3, h4, h5, h6, h7, h8, _⟩ := fq_parts t b hb
  rw [fq_fr hb] at e
  unfold fr at e
  simp only [D.tup.injEq, List.cons.injEq, D.int.injEq, and_true] at e
  exact ⟨by rw [e.1]; omega, by have := e.2; omega⟩
theorem sz_ba {n : Nat} {q : Rat} (h : Sz n q) (hn : n ≤ 4000) : q.num.natAbs < BA ∧ ((q.den : Int)).natAbs < BA := by
  have h' := h.mono hn
  exact ⟨h'.1, h'.2⟩
theorem nat_add_lt {a b n m : Nat} (ha : a < 2 ^ n) (hb : b < 2 ^ m) : a + b < 2 ^ (n + m + 1) := by
  have h1 : 2 ^ n ≤ 2 ^ (n + m) := Nat.pow_le_pow_right (by omega) (by omega)
  have h2 : 2 ^ m ≤ 2 ^ (n + m) := Nat.pow_le_pow_right (by omega) (by omega)
  rw [Nat.pow_succ]
  omega
theorem nat_mul_lt {a b n m : Nat} (ha : a < 2 ^ n) (hb : b < 2 ^ m) : a * b < 2 ^ (n + m) := by
  rw [Nat.pow_add]
  exact Nat.mul_lt_mul_of_lt_of_le ha (Nat.le_of_lt hb) (by omega)
theorem sz_add {n m : Nat} {p q : Rat} (hp : Sz n p) (hq : Sz m q) : Sz (n + m + 1) (p + q) := by
  have e : p + q = ((p.num * q.den + q.num * p.den : Int) : Rat) / ((p.den * q.den : Int) : Rat) := by
    have h1 := rat_mul_den p
    have h2 := rat_mul_den q
    have n1 := cast_ne (show (p.den : Int) ≠ 0 by have := p.den_nz; omega)
    have n2 := cast_ne (show (q.den : Int) ≠ 0 by have := q.den_nz; omega)
    simp only [Rat.intCast_add, Rat.intCast_mul]
    generalize ((p.den : Int) : Rat) = a at *
    generalize ((q.den : Int) : Rat) = b at *
    rw [← h1, ← h2]
    grind
  rw [e]
  have m1 := nat_mul_lt hp.1 hq.2
  have m2 := nat_mul_lt hq.1 hp.2
  have m3 := nat_mul_lt hp.2 hq.2
  refine sz_div (Int.mul_pos (den_pos' p) (den_pos' q)) ?_ ?_
  · have a1 : (p.num * q.den).natAbs = p.num.natAbs * q.den := by rw [Int.natAbs_mul]; rfl
    have a2 : (q.num * p.den).natAbs = q.num.natAbs * p.den := by rw [Int.natAbs_mul]; rfl
    rw [show n + m + 1 = n + m + 1 from rfl, Nat.pow_succ]
    rw [Nat.add_comm m n] at m2
    omega
  · have a3 : ((p.den : Int) * q.den).natAbs = p.den * q.den := by rw [Int.natAbs_mul]; rfl
    rw [a3, Nat.pow_succ]
    omega
theorem sz_neg {n : Nat} {q : Rat} (h : Sz n q) : Sz n (-q) := ⟨by rw [Rat.neg_num]; simpa using h.1, by rw [Rat.neg_den]; exact h.2⟩
theorem sz_sub {n m : Nat} {p q : Rat} (hp : Sz n p) (hq : Sz m q) : Sz (n + m + 1) (p - q) := by
  rw [Rat.sub_eq_add_neg]
  exact sz_add hp (sz_neg hq)
theorem sz_mul {n m : Nat} {p q : Rat} (hp : Sz n p) (hq : Sz m q) : Sz (n + m) (p * q) := by
  have e : p * q = ((p.num * q.num : Int) : Rat) / ((p.den * q.den : Int) : Rat) := by
    have h1 := rat_mul_den p
    have h2 := rat_mul_den q
    have n1 := cast_ne (show (p.den : Int) ≠ 0 by have := p.den_nz; omega)
    have n2 := cast_ne (show (q.den : Int) ≠ 0 by have := q.den_nz; omega)
    simp only [Rat.intCast_add, Rat.intCast_mul]
    generalize ((p.den : Int) : Rat) = a at *
    generalize ((q.den : Int) : Rat) = b at *
    rw [← h1, ← h2]
    grind
  rw [e]
  refine sz_div (Int.mul_pos (den_pos' p) (den_pos' q)) ?_ ?_
  · rw [Int.natAbs_mul]; exact nat_mul_lt hp.1 hq.1
  · rw [Int.natAbs_mul]; exact nat_mul_lt hp.2 hq.2
end Law

set_option maxRecDepth 100000
set_option linter.all false
namespace Law
open R PySem L2
local macro_rules | `(tactic| walk_at "ev") => `(tactic| simp only [mDef, En.start, oSeq, oIf, oRet, oSet, oPar, oNx, oFail, oEx, m2, m1, mA, aCons, aNil, mB, mC, mCh, mT, mNot, mAnd, mOr, mAndV, mOrV, mNotV, mIf, mTup, mLst, mList, asB_b, bind_leaf, bind_fail, lineOk_1, lineOk_2, lineOk_3, mPeek_z, mPeek_s, mVar_z, mVar_s, put_z, put_s, opAdd_i, opSub_i, opNeg_i, cLt_i, cLe_i, cGt_i, cGe_i, cEq_i, cNe_i, fAbs_i, fInt_i, fLen_t, fLen_l, ix0, ix1, Bool.false_eq_true, Bool.not_true, Bool.not_false,
  List.length_cons, List.length_nil, List.map_cons, List.map_nil, List.cons_append, List.nil_append, List.replicate, Nat.reduceAdd, Nat.reduceSub, Nat.zero_add, if_true, if_false, ↓reduceIte])

theorem reduced_fr {t b : Int} (hb : 0 < b) (h1 : b.natAbs < BB) : f_reduced [.int t, .int b] = .leaf (fr ((t : Rat) / (b : Rat))) := by rw [reduced_eq hb h1, fq_fr hb]
theorem frac_add {p q : Rat} : ((p.num * q.den + q.num * p.den : Int) : Rat) / ((p.den * q.den : Int) : Rat) = p + q := by
  have h1 := rat_mul_den p
  have h2 := rat_mul_den q
  have n1 := cast_ne (show (p.den : Int) ≠ 0 by have := p.den_nz; omega)
  have n2 := cast_ne (show (q.den : Int) ≠ 0 by have := q.den_nz; omega)
  simp only [Rat.intCast_add, Rat.intCast_mul]
  generalize ((p.den : Int) : Rat) = a at *
  generalize ((q.den : Int) : Rat) = b at *
  rw [← h1, ← h2]
  grind
theorem frac_sub {p q : Rat} : ((p.num * q.den - q.num * p.den : Int) : Rat) / ((p.den * q.den : Int) : Rat) = p - q := by
  have h1 := rat_mul_den p
  have h2 := rat_mul_den q
  have n1 := cast_ne (show (p.den : Int) ≠ 0 by have := p.den_nz; omega)
  have n2 := cast_ne (show (q.den : Int) ≠ 0 by have := q.den_nz; omega)
  simp only [Rat.intCast_sub, Rat.intCast_mul]
  generalize ((p.den : Int) : Rat) = a at *
  generalize ((q.den : Int) : Rat) = b at *
  rw [← h1, ← h2]
  grind
theorem frac_mul {p q : Rat} : ((p.num * q.num : Int) : Rat) / ((p.den * q.den : Int) : Rat) = p * q := by
  have h1 := rat_mul_den p
  have h2 := rat_mul_den q
  have n1 := cast_ne (show (p.den : Int) ≠ 0 by have := p.den_nz; omega)
  have n2 := cast_ne (show (q.den : Int) ≠ 0 by have := q.den_nz; omega)
  simp only [Rat.intCast_mul]
  generalize ((p.den : Int) : Rat) = a at *
  generalize ((q.den : Int) : Rat) = b at *
  rw [← h1, ← h2]
  grind
theorem frac_div {p q : Rat} (hq : 0 < q) : ((p.num * q.den : Int) : Rat) / ((p.den * q.num : Int) : Rat) = p / q := by
  have h1 := rat_mul_den p
  have h2 := rat_mul_den q
  have n1 := cast_ne (show (p.den : Int) ≠ 0 by have := p.den_nz; omega)
  have n2 := cast_ne (show (q.den : Int) ≠ 0 by have := q.den_nz; omega)
  simp only [Rat.intCast_mul]
  generalize ((p.den : Int) : Rat) = a at *
  generalize ((q.den : Int) : Rat) = b at *
  rw [← h1, ← h2]
  grind
theorem add_fr {p q : Rat} (hp : Sz 4000 p) (hq : Sz 4000 q) : f_add [fr p, fr q] = .leaf (fr (p + q)) := by
  obtain ⟨a1, a2⟩ := sz_ba hp (by omega)
  obtain ⟨b1, b2⟩ := sz_ba hq (by omega)
  show f_add [.tup [.int p.num, .int p.den], .tup [.int q.num, .int q.den]] = _
  rw [add_eq (den_pos' p) (den_pos' q) a1 a2 b1 b2, fq_fr (Int.mul_pos (den_pos' p) (den_pos' q)), frac_add]
theorem multiply_fr {p q : Rat} (hp : Sz 4000 p) (hq : Sz 4000 q) : f_multiply [fr p, fr q] = .leaf (fr (p * q)) := by
  obtain ⟨a1, a2⟩ := sz_ba hp (by omega)
  obtain ⟨b1, b2⟩ := sz_ba hq (by omega)
  show f_multiply [.tup [.int p.num, .int p.den], .tup [.int q.num, .int q.den]] = _
  rw [multiply_eq (den_pos' p) (den_pos' q) a1 a2 b1 b2, fq_fr (Int.mul_pos (den_pos' p) (den_pos' q)), frac_mul]
theorem num_pos {q : Rat} (h : 0 < q) : 0 < q.num := by
  have h1 : 0 ≤ q.num := Rat.num_nonneg.mpr (by grind)
  have h2 : q.num ≠ 0 := by
    intro e
    have := rat_mul_den q
    rw [e] at this
    have n2 := cast_ne (show (q.den : Int) ≠ 0 by have := q.den_nz; omega)
    generalize ((q.den : Int) : Rat) = b at *
    have z : ((0 : Int) : Rat) = 0 := by rfl
    rw [z] at this
    grind
  omega
theorem below_fr {p q : Rat} (hp : Sz 4000 p) (hq : Sz 4000 q) : f_is_below [fr p, fr q] = .leaf (.bl (decide (p < q))) := by
  obtain ⟨a1, a2⟩ := sz_ba hp (by omega)
  obtain ⟨b1, b2⟩ := sz_ba hq (by omega)
  show f_is_below [.tup [.int p.num, .int p.den], .tup [.int q.num, .int q.den]] = _
  rw [below_eq a1 a2 b1 b2]
  exact congrArg (fun b => Tree.leaf (D.bl b)) (decide_eq_decide.mpr (Rat.lt_iff p q).symm)
theorem cEq_fr (p q : Rat) : cEq (fr p) (fr q) = .leaf (decide (p = q)) := by
  show Tree.leaf (((p.num == q.num) && (((p.den : Int) == (q.den : Int)) && true))) = _
  refine congrArg _ ?_
  rw [Bool.and_true]
  by_cases h : p = q
  · subst h; simp
  · rw [decide_eq_false h]
    cases e1 : (p.num == q.num)
    · rfl
    · cases e2 : ((p.den : Int) == (q.den : Int))
      · rfl
      · exact absurd (Rat.ext (by simpa using e1) (by have := (beq_iff_eq.mp e2 : (p.den : Int) = q.den); omega)) h
theorem cNe_fr (p q : Rat) : cNe (fr p) (fr q) = .leaf (!decide (p = q)) := by
  have h := cEq_fr p q
  have h' : cNe (fr p) (fr q) = .leaf (!((p.num == q.num) && (((p.den : Int) == (q.den : Int)) && true))) := rfl
  have h'' : cEq (fr p) (fr q) = .leaf ((p.num == q.num) && (((p.den : Int) == (q.den : Int)) && true)) := rfl
  rw [h''] at h
  injection h with h
  rw [h', h]
theorem isint_eq (t : Int) : f_is_integer [.int t] = .leaf (.bl true) := by
  unfold f_is_integer b_is_integer
  walk_at "ev"
  rfl
theorem fracof_fr {q : Rat} (h : Sz 8000 q) : f_is_fraction_of [fr q] = .leaf (.bl true) := by
  have hB : ((q.den : Int)).natAbs < BB := Nat.lt_of_lt_of_le h.2 (by unfold BB; exact Nat.pow_le_pow_right (by omega) (by omega))
  have hd : f_divisor [.int (if q.num < 0 then -q.num else q.num), .int q.den] = .leaf (.int 1) := by
    rw [divisor_eq (by split <;> omega) (by omega) hB, abs_gcd, show Int.gcd q.num (q.den : Int) = 1 from q.reduced]; rfl
  have hp := den_pos' q
  have i1 := isint_eq q.num
  have i2 := isint_eq (q.den : Int)
  have t1 : fIsi [.tup [.int q.num, .int q.den], .ty "tuple"] = .leaf (.bl true) := rfl
  unfold fr f_is_fraction_of b_is_fraction_of
  generalize (q.den : Int) = d at *
  generalize q.num = n at *
  generalize f_is_integer = fi at *
  generalize f_divisor = fd at *
  generalize fIsi = fs at *
  walk_at "ev"
  rw [t1]
  walk_at "ev"
  rw [i1, i2]
  walk_at "ev"
  rw [show ((((1 + 1 : Nat) : Int)) == 2) = true from rfl]
  walk_at "ev"
  rw [decide_eq_true (by omega : 1 ≤ d)]
  walk_at "ev"
  rw [hd]
  walk_at "ev"
  rfl
end Law

set_option maxRecDepth 100000
set_option linter.all false
namespace R
open PySem L2
open Tree (leaf fail)
theorem Tree.all_to {α β : Type} {t : Tree α} {f : α → Tree β} {P : α → Prop} {Q : β → Prop} (h : t.all P) (k : ∀ a, P a → (f a).all Q) : (t.bind f).all Q := Tree.all_bind.mpr (Tree.all_mono k h)
theorem range_nil (a : Int) : rangeD a a = [] := by
  unfold rangeD
  rw [Int.sub_self]
  rfl
theorem range_cons (a : Int) (n : Nat) : rangeD a (a + (n + 1 : Nat)) = .int a :: rangeD (a + 1) (a + 1 + n) := by
  unfold rangeD
  rw [show (a + ((n + 1 : Nat) : Int) - a).toNat = n + 1 by omega, show (a + 1 + (n : Int) - (a + 1)).toNat = n by omega, List.range_succ_eq_map, List.map_cons, List.map_map]
  refine congr (congrArg _ (by simp)) (List.map_congr_left fun i _ => ?_)
  show D.int _ = D.int _
  exact congrArg _ (by simp only [Nat.succ_eq_add_one]; omega)
theorem mRange2_i {i j : Int} (h : (rOk i && rOk j) = true) : (match D.int i, D.int j with
  | .int i, .int j => if (rOk i && rOk j) = true then Tree.leaf (rangeD i j) else .fail
  | _, _ => .fail) = .leaf (rangeD i j) := if_pos h
theorem draw_eq {n : Int} (h : (decide (0 < n) && decide (n.natAbs.log2 < 9000)) = true) : fDraw [.pot, .int n] = .draw n.toNat fun i => .leaf (.int i) := if_pos h
theorem all_draw {α : Type} {n : Nat} {k : Nat → Tree α} {P : α → Prop} (h : ∀ i : Nat, i < n → (k i).all P) : (Tree.draw n k).all P := h
theorem all_leaf {α : Type} {a : α} {P : α → Prop} (h : P a) : (Tree.leaf a).all P := h
mutual
def dEq : D → D → Bool
  | .non, .non => true
  | .bl a, .bl b => a == b
  | .int i, .int j => decide (i = j)
  | .tup xs, .tup ys => dsEq xs ys
  | .lst xs, .lst ys => dsEq xs ys
  | .pot, .pot => true
  | _, _ => false
def dsEq : List D → List D → Bool
  | [], [] => true
  | x :: xs, y :: ys => dEq x y && dsEq xs ys
  | _, _ => false
end
mutual
theorem dEq_eq : ∀ {a b : D}, dEq a b = true → a = b
  | .non, b, h => by cases b <;> first | rfl | cases h
  | .bl a, b, h => by
    cases b with
    | bl b => exact congrArg _ (by simpa [dEq] using h)
    | _ => cases h
  | .int a, b, h => by
    cases b with
    | int b => exact congrArg _ (by simpa [dEq] using h)
    | _ => cases h
  | .tup a, b, h => by
    cases b with
    | tup b => exact congrArg _ (dsEq_eq (by simpa [dEq] using h))
    | _ => cases h
  | .lst a, b, h => by
    cases b with
    | lst b => exact congrArg _ (dsEq_eq (by simpa [dEq] using h))
    | _ => cases h
  | .pot, b, h => by cases b <;> first | rfl | cases h
  | .str a, b, h => by cases b <;> cases h
  | .ty a, b, h => by cases b <;> cases h
  | .scr a, b, h => by cases b <;> cases h
theorem dsEq_eq : ∀ {a b : List D}, dsEq a b = true → a = b
  | [], b, h => by cases b <;> first | rfl | cases h
  | x :: xs, b, h => by
    cases b with
    | nil => cases h
    | cons y ys =>
      have h : (dEq x y && dsEq xs ys) = true := by simpa [dsEq] using h
      rw [Bool.and_eq_true] at h
      rw [dEq_eq h.1, dsEq_eq h.2]
end
def isL {α : Type} (p : α → Bool) : Tree α → Bool
  | .leaf a => p a
  | _ => false
theorem isL_eq {t : Tree D} {d : D} (h : isL (dEq d) t = true) : t = .leaf d := by
  cases t with
  | leaf a => exact congrArg _ (dEq_eq h).symm
  | fail => cases h
  | draw n k => cases h
theorem isL_b {t : Tree Bool} {d : Bool} (h : isL (d == ·) t = true) : t = .leaf d := by
  cases t with
  | leaf a => exact congrArg _ (by simpa [isL] using h : d = a).symm
  | fail => cases h
  | draw n k => cases h
theorem lc_map {β : Type} {g : D → En → Tree En} {mt : En → Tree Bool} {me : En → Tree D} {E : En} {dx f : β → D} : ∀ L : List β, (∀ x ∈ L, ∃ E', g (dx x) E = .leaf E' ∧ mt E' = .leaf true ∧ me E' = .leaf (f x)) → lcLoop g mt me E (L.map dx) = .leaf (L.map f)
  | [], _ => rfl
  | x :: L, h => by
    obtain ⟨E', h1, h2, h3⟩ := h x List.mem_cons_self
    rw [List.map_cons, List.map_cons]
    unfold lcLoop
    rw [h1, bind_leaf, h2, bind_leaf, if_pos rfl, h3, bind_leaf, lc_map L fun y hy => h y (List.mem_cons_of_mem _ hy)]
    rfl
theorem mLc_at {β : Type} {mi : En → Tree (List D)} {vs : List Nat} {g : D → En → Tree En} {mt : En → Tree Bool} {me : En → Tree D} {E : En} {dx f : β → D} {L : List β} (hi : mi E = .leaf (L.map dx)) (hl : L.length ≤ 100) (h : ∀ x ∈ L, ∃ E', g (dx x) (wipeE E vs) = .leaf E' ∧ mt E' = .leaf true ∧ me E' = .leaf (f x)) : mLc mi vs g mt me E = .leaf (L.map f) := by
  unfold mLc
  rw [hi, bind_leaf, lineOk_s _ _ (by rw [List.length_map]; exact hl), lc_map L h]
theorem zip_map {β : Type} {f g : β → D} : ∀ L : List β, zipD (L.map f) (L.map g) = L.map fun x => .tup [f x, g x]
  | [] => rfl
  | x :: L => by rw [List.map_cons, List.map_cons, List.map_cons]; unfold zipD; rw [zip_map L]
theorem bls_true {β : Type} : ∀ L : List β, blsD (L.map fun _ => D.bl true) = some (L.map fun _ => true)
  | [] => rfl
  | x :: L => by rw [List.map_cons, List.map_cons]; unfold blsD; rw [bls_true L]; rfl
theorem all_true {β : Type} (L : List β) : fAll [.lst (L.map fun _ => D.bl true)] = .leaf (.bl true) := by
  show withO _ _ = _
  unfold withO
  rw [bls_true]
  simp
theorem range_n (n : Nat) : rangeD 0 (n : Int) = (List.range n).map fun i : Nat => .int (i : Int) := by
  unfold rangeD
  rw [show ((n : Int) - 0).toNat = n by omega]
  exact List.map_congr_left fun i _ => by rw [Int.zero_add]
theorem range1_i {m : En → Tree D} {E : En} {j : Int} (h : m E = .leaf (.int j)) (k2 : -(2 ^ 62) ≤ j ∧ j < 2 ^ 62) : mRange1 m E = .leaf (rangeD 0 j) := by
  unfold mRange1
  rw [h]
  simp only [bind_leaf]
  refine if_pos ?_
  unfold rOk
  simp only [Bool.and_eq_true, decide_eq_true_eq]
  exact k2
theorem range1_at {m : En → Tree D} {E : En} {n : Nat} (h : m E = .leaf (.int n)) (hn : n ≤ 100) : mRange1 m E = .leaf ((List.range n).map fun i : Nat => .int (i : Int)) := by
  rw [← range_n]
  exact range1_i h ⟨by omega, by omega⟩
end R
namespace Law
open R PySem L2
theorem dr (n : Int) (h0 : 0 < n) (h1 : n < 10 ^ 60) : f_law_draw [.pot, .int n] = .draw n.toNat fun i => .leaf (.int i) := by
  unfold f_law_draw
  refine draw_eq ?_
  have h2 : n.natAbs.log2 < 200 := (Nat.log2_lt (by omega)).mpr (Nat.lt_of_lt_of_le (show n.natAbs < 10 ^ 60 by omega) (by decide))
  rw [decide_eq_true h0, decide_eq_true (show n.natAbs.log2 < 9000 by omega)]; rfl
theorem drp (n : Int) (h0 : 0 < n) (h1 : n < 10 ^ 60) : (f_law_draw [.pot, .int n]).all fun d => ∃ i : Int, 0 ≤ i ∧ i < n ∧ d = .int i := by
  rw [dr n h0 h1]
  exact all_draw fun i hi => all_leaf ⟨i, by omega, by omega, rfl⟩
structure AllS {α : Type} (P : α → Prop) (t : Tree α) : Prop where
  h : t.all P
theorem allS_bind {α β : Type} {P : β → Prop} {f : α → Tree β} {t : Tree α} : AllS P (t.bind f) = AllS (fun a => AllS P (f a)) t :=
  propext ⟨fun ⟨h⟩ => ⟨Tree.all_mono (fun _ k => ⟨k⟩) (Tree.all_bind.mp h)⟩, fun ⟨h⟩ => ⟨Tree.all_bind.mpr (Tree.all_mono (fun _ k => k.h) h)⟩⟩
theorem allS_leaf {α : Type} {P : α → Prop} {a : α} : AllS P (.leaf a) = P a := propext ⟨fun h => h.h, fun h => ⟨h⟩⟩
theorem allL {α : Type} {a : α} {P : α → Prop} : (Tree.leaf a).all P = P a := rfl
theorem range2_at {m m' : En → Tree D} {E : En} {i j : Int} (h : m E = .leaf (.int i)) (h' : m' E = .leaf (.int j)) (k1 : -(2 ^ 62) ≤ i ∧ i < 2 ^ 62) (k2 : -(2 ^ 62) ≤ j ∧ j < 2 ^ 62) : mRange2 m m' E = .leaf (rangeD i j) := by
  unfold mRange2
  rw [h, h']
  simp only [bind_leaf]
  refine if_pos ?_
  unfold rOk
  simp only [Bool.and_eq_true, decide_eq_true_eq]
  exact ⟨k1, k2⟩
theorem for_at {mi : En → Tree (List D)} {g : D → En → Tree En} {m : En → Tree Out} {E : En} {ds : List D} {t : Tree Out} (h : mi E = .leaf ds) (k : oLoop g m ds E = t) : oFor mi g m E = t := by
  unfold oFor
  rw [h]
  exact k
theorem all_go {t : Tree D} {Q : D → Prop} {n : Int} (h : t.all fun d => ∃ i : Int, 0 ≤ i ∧ i < n ∧ d = .int i) (k : ∀ i : Int, 0 ≤ i → i < n → Q (.int i)) : t.all Q := Tree.all_mono (fun d ⟨i, a, b, e⟩ => e ▸ k i a b) h
theorem allS_go {t : Tree D} {Q : D → Prop} {n : Int} (h : AllS (fun d => ∃ i : Int, 0 ≤ i ∧ i < n ∧ d = .int i) t) (k : ∀ i : Int, 0 ≤ i → i < n → Q (.int i)) : AllS Q t := ⟨Tree.all_mono (fun d ⟨i, a, b, e⟩ => e ▸ k i a b) h.h⟩
theorem drS (n : Int) (h0 : 0 < n) (h1 : n < 10 ^ 60) : AllS (fun d => ∃ i : Int, 0 ≤ i ∧ i < n ∧ d = .int i) (f_law_draw [.pot, .int n]) := ⟨drp n h0 h1⟩
end Law

set_option maxRecDepth 100000
set_option linter.all false
namespace R
open PySem L2
theorem seq_l (ds : List D) : seqOf (.lst ds) = .leaf ds := Eq.trans rfl rfl
theorem seq_t (ds : List D) : seqOf (.tup ds) = .leaf ds := Eq.trans rfl rfl
end R
namespace Law
open R PySem L2
local macro_rules | `(tactic| walk_at "ev") => `(tactic| simp only [mDef, En.start, oSeq, oIf, oRet, oSet, oPar, oNx, oFail, oEx, m2, m1, mA, aCons, aNil, mB, mC, mCh, mT, mNot, mAnd, mOr, mAndV, mOrV, mNotV, mIf, mTup, mLst, mList, asB_b, allS_leaf, wipe_n, wipe_c, wset_z, wset_s, tYesM, oAsg, gPut, gTp, gsCons, gsNil, mSeq, seq_l, seq_t, bind_leaf, bind_fail, lineOk_1, lineOk_2, lineOk_3, mPeek_z, mPeek_s, mVar_z, mVar_s, put_z, put_s, opAdd_i, opSub_i, opNeg_i, cLt_i, cLe_i, cGt_i, cGe_i, cEq_i, cNe_i, fAbs_i, fInt_i, fLen_t, fLen_l, ix0, ix1, Bool.false_eq_true, Bool.not_true, Bool.not_false,
  List.length_cons, List.length_nil, List.map_cons, List.map_nil, List.cons_append, List.nil_append, List.replicate, Nat.reduceAdd, Nat.reduceSub, Nat.zero_add, if_true, if_false, ↓reduceIte])

def Sh (q : Rat) : Prop := q.num.natAbs < 10 ^ 12 ∧ q.den < 10 ^ 12
theorem sh_sz {q : Rat} (h : Sh q) : Sz 40 q := ⟨Nat.lt_of_lt_of_le h.1 (by decide), Nat.lt_of_lt_of_le h.2 (by decide)⟩
theorem short_fr {q : Rat} (h : Sh q) : f_is_short [fr q] = .leaf (.bl true) := by
  have hf := fracof_fr ((sh_sz h).mono (m := 8000) (by omega))
  obtain ⟨h1, h2⟩ := h
  unfold fr at hf ⊢
  unfold f_is_short b_is_short
  generalize hn : q.num = n at *
  generalize hd : (q.den : Int) = d at *
  have h3 : d < 10 ^ 12 := by omega
  clear hd h2
  generalize f_is_fraction_of = fi at *
  walk_at "ev"
  rw [hf]
  walk_at "ev"
  rw [decide_eq_true (by split <;> omega)]
  walk_at "ev"
  rw [decide_eq_true (by omega)]
theorem total_loop_fr {p : Option Slot} {n : Nat} : ∀ (L : List Rat) (a : Rat) (x : Option Slot) (m : Nat), Sz m a → (∀ q ∈ L, Sz n q) → m + L.length * (n + 1) ≤ 4000 → n ≤ 4000 →
    ∃ y, oLoop (gPut 2) (oSet 1 (mA f_add (aCons (mVar 1) (aCons (mVar 2) aNil)))) (L.map fr) [p, some ⟨false, fr a⟩, x] = .leaf (.nx [p, some ⟨false, fr (a + L.sum)⟩, y])
  | [], a, x, m, _, _, _, _ => ⟨x, by rw [show a + ([] : List Rat).sum = a by simp; grind]; rfl⟩
  | q :: L, a, x, m, ha, hL, hm, hn => by
    have hm : m + (L.length + 1) * (n + 1) ≤ 4000 := hm
    have e : (L.length + 1) * (n + 1) = L.length * (n + 1) + (n + 1) := Nat.succ_mul _ _
    have hq := hL q List.mem_cons_self
    obtain ⟨y, ih⟩ := total_loop_fr (p := p) (n := n) L (a + q) (some ⟨false, fr q⟩) (m + n + 1) (sz_add ha hq) (fun q hq => hL q (List.mem_cons_of_mem _ hq)) (by omega) hn
    refine ⟨y, ?_⟩
    have k := add_fr (ha.mono (m := 4000) (by omega)) (hq.mono (m := 4000) hn)
    rw [List.map_cons]
    unfold oLoop
    generalize f_add = fa at *
    walk_at "ev"
    rw [k]
    walk_at "ev"
    rw [ih, List.sum_cons, Rat.add_assoc]
theorem fr_zero : fr 0 = .tup [.int 0, .int 1] := rfl
theorem fr_one : fr 1 = .tup [.int 1, .int 1] := rfl
theorem sz_zero (n : Nat) (h : 1 ≤ n) : Sz n 0 := ⟨Nat.pow_pos (by omega), Nat.lt_of_lt_of_le (show 1 < 2 ^ 1 by decide) (Nat.pow_le_pow_right (by omega) h)⟩
theorem total_l {n : Nat} (L : List Rat) (hL : ∀ q ∈ L, Sz n q) (h : 1 + L.length * (n + 1) ≤ 4000) (hn : n ≤ 4000) : f_total [.lst (L.map fr)] = .leaf (fr L.sum) := by
  obtain ⟨y, hl⟩ := total_loop_fr (p := some ⟨false, .lst (L.map fr)⟩) L 0 none 1 (sz_zero 1 (by omega)) hL h hn
  rw [show (0 : Rat) + L.sum = L.sum by grind, fr_zero] at hl
  unfold f_total b_total
  generalize f_add = fa at *
  have hs : mSeq (mVar 0) [some ⟨false, .lst (L.map fr)⟩, some ⟨false, .tup [.int 0, .int 1]⟩, none] = .leaf (L.map fr) := by walk_at "ev"
  have hf := for_at hs hl
  generalize oFor = ff at *
  generalize L.map fr = z at *
  walk_at "ev"
  rw [hf]
  walk_at "ev"
theorem total_t {n : Nat} (L : List Rat) (hL : ∀ q ∈ L, Sz n q) (h : 1 + L.length * (n + 1) ≤ 4000) (hn : n ≤ 4000) : f_total [.tup (L.map fr)] = .leaf (fr L.sum) := by
  obtain ⟨y, hl⟩ := total_loop_fr (p := some ⟨false, .tup (L.map fr)⟩) L 0 none 1 (sz_zero 1 (by omega)) hL h hn
  rw [show (0 : Rat) + L.sum = L.sum by grind, fr_zero] at hl
  unfold f_total b_total
  generalize f_add = fa at *
  have hs : mSeq (mVar 0) [some ⟨false, .tup (L.map fr)⟩, some ⟨false, .tup [.int 0, .int 1]⟩, none] = .leaf (L.map fr) := by walk_at "ev"
  have hf := for_at hs hl
  generalize oFor = ff at *
  generalize L.map fr = z at *
  walk_at "ev"
  rw [hf]
  walk_at "ev"
structure LotQ (L : List Rat) : Prop where
  l1 : 1 ≤ L.length
  l8 : L.length ≤ 8
  nn : ∀ q ∈ L, 0 ≤ q
  one : L.sum = 1
  sh : ∀ q ∈ L, Sh q
def lotD (L : List Rat) : D := .tup (L.map fr)
theorem islot_fr {L : List Rat} (h : LotQ L) : f_is_lot_of [lotD L] = .leaf (.bl true) := by
  have hs : ∀ q ∈ L, Sz 40 q := fun q hq => sh_sz (h.sh q hq)
  have l8 := h.l8
  have l1 := h.l1
  have ht := total_t L hs (by omega) (by omega)
  rw [h.one] at ht
  have hl : fLen [lotD L] = .leaf (.int L.length) := by unfold lotD; rw [fLen_t, List.length_map]
  have hi : fIsi [lotD L, .ty "tuple"] = .leaf (.bl true) := rfl
  have he := cEq_fr 1 1
  rw [decide_eq_true rfl, fr_one] at he
  rw [fr_one] at ht
  have hc : mLc (mSeq (mPeek 0)) [1] (gPut 1) tYesM (mAndV (mA f_is_fraction_of (aCons (mVar 1) aNil)) (mB (mC cGe (m2 opIx (mPeek 1) (fun _ => .leaf (.int 0))) (fun _ => .leaf (.int 0))))) [some ⟨false, lotD L⟩, none] = .leaf (L.map fun _ => .bl true) := by
    refine mLc_at (L := L) (dx := fr) (by unfold lotD; walk_at "ev") (by omega) fun q hq => ⟨[some ⟨false, lotD L⟩, some ⟨false, fr q⟩], by walk_at "ev", rfl, ?_⟩
    have k := fracof_fr ((hs q hq).mono (m := 8000) (by omega))
    have k2 : 0 ≤ q.num := Rat.num_nonneg.mpr (h.nn q hq)
    generalize f_is_fraction_of = fi at *
    walk_at "ev"
    rw [k]
    walk_at "ev"
    unfold fr
    generalize q.num = n at *
    walk_at "ev"
    rw [decide_eq_true k2]
  have ha := all_true L
  unfold f_is_lot_of b_is_lot_of
  rw [show D.tup (L.map fr) = lotD L from rfl] at ht
  have i1 : (1 : Int) ≤ L.length := by omega
  have i2 : (L.length : Int) ≤ 8 := by omega
  clear hs l8 l1
  generalize (L.length : Int) = n at *
  generalize L.map (fun _ => D.bl true) = bs at *
  generalize lotD L = l at *
  generalize mLc = ml at *
  generalize fIsi = fi at *
  generalize fLen = fl at *
  generalize fAll = fa at *
  generalize f_total = ft at *
  generalize cEq = ce at *
  walk_at "ev"
  rw [hi]
  walk_at "ev"
  rw [hl]
  walk_at "ev"
  rw [decide_eq_true i1]
  walk_at "ev"
  rw [decide_eq_true i2]
  walk_at "ev"
  rw [hc]
  walk_at "ev"
  rw [ha]
  walk_at "ev"
  rw [ht]
  walk_at "ev"
  rw [he]
  walk_at "ev"
end Law

set_option maxRecDepth 100000
set_option linter.all false
namespace R
open PySem L2
theorem zip_at {m m' : En → Tree D} {E : En} {d d' : D} {ds es : List D} (h : m E = .leaf d) (h' : m' E = .leaf d') (s : seqOf d = .leaf ds) (s' : seqOf d' = .leaf es) : mZip m m' E = .leaf (zipD ds es) := by
  unfold mZip
  rw [h, bind_leaf, h', bind_leaf, s, bind_leaf, s', bind_leaf]
end R
namespace Law
open R PySem L2
local macro_rules | `(tactic| walk_at "ev") => `(tactic| simp only [mDef, En.start, oSeq, oIf, oRet, oSet, oPar, oNx, oFail, oEx, m2, m1, mA, aCons, aNil, mB, mC, mCh, mT, mNot, mAnd, mOr, mAndV, mOrV, mNotV, mIf, mTup, mLst, mList, asB_b, allS_leaf, wipe_n, wipe_c, wset_z, wset_s, tYesM, oAsg, gPut, gTp, gsCons, gsNil, mSeq, seq_l, seq_t, bind_leaf, bind_fail, lineOk_1, lineOk_2, lineOk_3, mPeek_z, mPeek_s, mVar_z, mVar_s, put_z, put_s, opAdd_i, opSub_i, opNeg_i, cLt_i, cLe_i, cGt_i, cGe_i, cEq_i, cNe_i, fAbs_i, fInt_i, fLen_t, fLen_l, ix0, ix1, Bool.false_eq_true, Bool.not_true, Bool.not_false,
  List.length_cons, List.length_nil, List.map_cons, List.map_nil, List.cons_append, List.nil_append, List.replicate, Nat.reduceAdd, Nat.reduceSub, Nat.zero_add, if_true, if_false, ↓reduceIte])

theorem zip_fr : ∀ P Q : List Rat, zipD (P.map fr) (Q.map fr) = (P.zip Q).map fun x => .tup [fr x.1, fr x.2]
  | [], _ => by simp [zipD]
  | _ :: _, [] => by simp [zipD]
  | p :: P, q :: Q => by simp only [List.map_cons, zipD, List.zip_cons_cons, zip_fr P Q]
theorem shortlot_fr {L : List Rat} (h : LotQ L) : f_is_short_lot [lotD L] = .leaf (.bl true) := by
  have k1 := islot_fr h
  have hc : mLc (mSeq (mPeek 0)) [1] (gPut 1) tYesM (mA f_is_short (aCons (mVar 1) aNil)) [some ⟨false, lotD L⟩, none] = .leaf (L.map fun _ => .bl true) := by
    refine mLc_at (L := L) (dx := fr) (by unfold lotD; walk_at "ev") (by have := h.l8; omega) fun q hq => ⟨[some ⟨false, lotD L⟩, some ⟨false, fr q⟩], by walk_at "ev", rfl, ?_⟩
    have k := short_fr (h.sh q hq)
    generalize f_is_short = fi at *
    walk_at "ev"
    rw [k]
  have ha := all_true L
  unfold f_is_short_lot b_is_short_lot
  generalize L.map (fun _ => D.bl true) = bs at *
  generalize f_is_lot_of = fi at *
  generalize fAll = fa at *
  generalize mLc = ml at *
  generalize lotD L = l at *
  walk_at "ev"
  rw [k1]
  walk_at "ev"
  rw [hc]
  walk_at "ev"
  rw [ha]
  walk_at "ev"
theorem len_lot (L : List Rat) : fLen [lotD L] = .leaf (.int L.length) := by unfold lotD; rw [fLen_t, List.length_map]
def ab (p q : Rat) : Rat := if p < q then q - p else p - q
theorem sz_ab {n : Nat} {p q : Rat} (hp : Sz n p) (hq : Sz n q) : Sz (n + n + 1) (ab p q) := by
  unfold ab
  split
  · exact sz_sub hq hp
  · exact sz_sub hp hq
def dist (P Q : List Rat) : Rat := ((P.zip Q).map fun x => ab x.1 x.2).sum / 2
theorem sum_sz {n : Nat} (hn : 1 ≤ n) : ∀ L : List Rat, (∀ q ∈ L, Sz n q) → Sz (1 + L.length * (n + 1)) L.sum
  | [], _ => by
    show Sz (1 + 0 * (n + 1)) 0
    rw [Nat.zero_mul]
    exact sz_zero 1 (by omega)
  | q :: L, h => by
    rw [List.sum_cons]
    have := sz_add (h q List.mem_cons_self) (sum_sz hn L fun q hq => h q (List.mem_cons_of_mem _ hq))
    refine this.mono ?_
    rw [List.length_cons, Nat.succ_mul]
    omega
theorem fr_two : fr 2 = .tup [.int 2, .int 1] := rfl
theorem zsz {P Q : List Rat} (hP : LotQ P) (hQ : LotQ Q) : (∀ x ∈ P.zip Q, Sz 40 x.1 ∧ Sz 40 x.2) ∧ (P.zip Q).length ≤ 8 :=
  ⟨fun x hx => ⟨sh_sz (hP.sh _ (List.of_mem_zip hx).1), sh_sz (hQ.sh _ (List.of_mem_zip hx).2)⟩, by rw [List.length_zip]; have := hP.l8; omega⟩
theorem abs_sz {P Q : List Rat} (hP : LotQ P) (hQ : LotQ Q) : ∀ q ∈ (P.zip Q).map (fun x => ab x.1 x.2), Sz 81 q := by
  obtain ⟨zs, zl⟩ := zsz hP hQ
  intro q hq
  obtain ⟨x, hx, rfl⟩ := List.mem_map.mp hq
  exact sz_ab (zs x hx).1 (zs x hx).2
theorem abs_tot {P Q : List Rat} (hP : LotQ P) (hQ : LotQ Q) : f_total [.lst ((P.zip Q).map fun x => fr (ab x.1 x.2))] = .leaf (fr ((P.zip Q).map fun x => ab x.1 x.2).sum) := by
  obtain ⟨zs, zl⟩ := zsz hP hQ
  have ht := total_l ((P.zip Q).map fun x => ab x.1 x.2) (abs_sz hP hQ) (by rw [List.length_map]; omega) (by omega)
  rw [List.map_map] at ht
  exact ht
theorem sz_two : Sz 4000 2 := Sz.mono (n := 2) ⟨by decide, by decide⟩ (by omega)
end Law

set_option maxRecDepth 100000
set_option linter.all false
namespace R
open PySem L2
theorem ok_app (a b : Str) (ha : PyData.strOk a = true) (hb : PyData.strOk b = true) : PyData.strOk (a ++ b) = true := by
  unfold PyData.strOk at *
  show (a.cps ++ b.cps).all _ = true
  rw [Array.all_append, ha, hb]; rfl
theorem ok_str (s : String) : PyData.strOk (Str.ofString s) = true := by
  unfold PyData.strOk
  rw [Str.ofString_eq_toList]
  rw [List.all_toArray, List.all_map, List.all_eq_true]
  intro c _
  have := c.valid
  simp only [Function.comp, decide_eq_true_eq]
  have h : c.toNat < 0x110000 := by
    have hv := c.valid
    unfold UInt32.isValidChar Nat.isValidChar at hv
    show c.val.toNat < _
    omega
  exact h
theorem ok_from : ∀ (ts : List Str) (k : Nat) (acc : Str), PyData.strOk acc = true → (∀ t ∈ ts, PyData.strOk t = true) → PyData.strOk (textFrom k acc ts) = true
  | [], _, _, h, _ => h
  | t :: ts, k, acc, h, ht => ok_from ts (k + 1) _ (ok_app _ _ (ok_app _ _ h (ok_str _)) (ht t List.mem_cons_self)) fun u hu => ht u (List.mem_cons_of_mem _ hu)
theorem ok_list (ts : List Str) (ht : ∀ t ∈ ts, PyData.strOk t = true) : PyData.strOk (listText ts) = true :=
  ok_app _ _ (ok_from ts 0 _ (ok_str _) ht) (ok_str _)
theorem ok_join : ∀ ts : List Str, (∀ t ∈ ts, PyData.strOk t = true) → PyData.strOk (Str.join ", " ts) = true
  | [], _ => by decide +kernel
  | [x], h => h x List.mem_cons_self
  | x :: y :: r, h => ok_app _ _ (ok_app _ _ (h x List.mem_cons_self) (ok_str _)) (ok_join (y :: r) fun u hu => h u (List.mem_cons_of_mem _ hu))
theorem ok_tuple (ts : List Str) (ht : ∀ t ∈ ts, PyData.strOk t = true) : PyData.strOk (tupleText ts) = true :=
  ok_app _ _ (ok_app _ _ (ok_str _) (ok_join ts ht)) (ok_str _)
def strB (x : Str) : Bool := PyData.strOk x && (PyData.str x).showable && (PyData.str x).leavesShort 21 && PyData.strOk (PyData.str x).shown
def numD : Nat → D → Bool
  | 0, _ => false
  | n + 1, d => match d with
    | .non => true
    | .bl _ => true
    | .int i => decide (i.natAbs < 2 ^ 20)
    | .str x => strB x
    | .tup xs => xs.all (numD n)
    | .lst xs => xs.all (numD n)
    | _ => false
theorem int_short {i : Int} (h : i.natAbs.log2 < 20) : (PyData.shown (.int i)).length ≤ 21 := by
  have e := int_text_length_le (k := 20) (by decide) h
  show (Str.ofString (toString i)).length ≤ _
  rw [ofString_length]
  exact e
structure NumOk (d : PyData) : Prop where
  sh : d.showable = true
  ls : d.leavesShort 21 = true
  ok : PyData.strOk d.shown = true
theorem numOk_all {n : Nat} (ih : ∀ d, numD n d = true → fitD n d = true ∧ NumOk (toPy n d)) : ∀ xs : List D, xs.all (numD n) = true →
    xs.all (fitD n) = true ∧ PyData.showableAll (xs.map (toPy n)) = true ∧ PyData.leavesShortAll 21 (xs.map (toPy n)) = true ∧ ∀ t ∈ PyData.shownAll (xs.map (toPy n)), PyData.strOk t = true
  | [], _ => ⟨rfl, by simp [PyData.showableAll], by simp [PyData.leavesShortAll], by simp [PyData.shownAll]⟩
  | x :: xs, h => by
    rw [List.all_cons, Bool.and_eq_true] at h
    obtain ⟨a, b⟩ := ih x h.1
    obtain ⟨c1, c2, c3, c4⟩ := numOk_all ih xs h.2
    refine ⟨by rw [List.all_cons, a, c1]; rfl, by rw [List.map_cons, PyData.showableAll, b.sh, c2]; rfl, by rw [List.map_cons, PyData.leavesShortAll, b.ls, c3]; rfl, ?_⟩
    rw [List.map_cons, PyData.shownAll]
    intro t ht
    rcases List.mem_cons.mp ht with e | e
    · exact e ▸ b.ok
    · exact c4 t e
theorem numOk : ∀ (n : Nat) (d : D), numD n d = true → fitD n d = true ∧ NumOk (toPy n d)
  | 0, _, h => by cases h
  | n + 1, d, h => by
    cases d with
    | non => exact ⟨rfl, by simp [toPy, PyData.showable], by simp [toPy, PyData.leavesShort], by simp only [toPy, PyData.shown]; exact ok_str _⟩
    | bl b => exact ⟨rfl, by simp [toPy, PyData.showable], by simp [toPy, PyData.leavesShort], by simp only [toPy, PyData.shown]; cases b <;> exact ok_str _⟩
    | int i =>
      have h0 : i.natAbs < 2 ^ 20 := by simpa [numD] using h
      have h : i.natAbs.log2 < 20 := by
        by_cases z : i.natAbs = 0
        · rw [z]; decide
        · exact Nat.lt_of_lt_of_le ((Nat.log2_lt z).mpr h0) (by decide)
      exact ⟨rfl, by simp only [toPy, PyData.showable, decide_eq_true_eq]; omega, by simp only [toPy, PyData.leavesShort, decide_eq_true_eq]; exact int_short h, by simp only [toPy, PyData.shown]; exact ok_str _⟩
    | str x =>
      have h : strB x = true := by simpa [numD] using h
      unfold strB at h
      simp only [Bool.and_eq_true] at h
      exact ⟨h.1.1.1, h.1.1.2, h.1.2, h.2⟩
    | tup xs =>
      obtain ⟨c1, c2, c3, c4⟩ := numOk_all (numOk n) xs (by simpa [numD] using h)
      exact ⟨by simp only [fitD]; exact c1, by simp only [toPy, PyData.showable]; exact c2, by simp only [toPy, PyData.leavesShort]; exact c3, by simp only [toPy, PyData.shown]; exact ok_tuple _ c4⟩
    | lst xs =>
      obtain ⟨c1, c2, c3, c4⟩ := numOk_all (numOk n) xs (by simpa [numD] using h)
      exact ⟨by simp only [fitD]; exact c1, by simp only [toPy, PyData.showable]; exact c2, by simp only [toPy, PyData.leavesShort]; exact c3, by simp only [toPy, PyData.shown]; exact ok_list _ c4⟩
    | _ => cases h
/-- repr of numbers' data: a text, equal to itself -/
theorem repr_ok {d : D} (h : numD 12 d = true) (hw : (toPy 12 d).weight ≤ 600000) : ∃ s, fRepr [d] = .leaf (.str s) ∧ cNe (.str s) (.str s) = .leaf false ∧ cEq (.str s) (.str s) = .leaf true := by
  obtain ⟨a, b⟩ := numOk 12 d h
  have hl := PyData.shown_le 21 (by decide) _ b.ls
  refine ⟨(toPy 12 d).shown, ?_, ?_, ?_⟩
  · have e : fRepr [d] = if (fitD 12 d && (toPy 12 d).showable && decide ((toPy 12 d).shown.length ≤ sizeLine)) = true then .leaf (.str (toPy 12 d).shown) else .fail := by
      cases d <;> first | rfl | cases h
    rw [e]
    refine if_pos ?_
    rw [a, b.sh]
    simp only [Bool.and_self, Bool.true_and, decide_eq_true_eq]
    refine Nat.le_trans hl (Nat.le_trans (Nat.add_le_add_right (Nat.mul_le_mul_left _ hw) _) (by decide))
  · have hf : fitD 12 (.str (toPy 12 d).shown) = true := b.ok
    show (if (fitD 12 _ && fitD 12 _) = true then _ else _) = _
    rw [hf]
    simp [eqD]
  · have hf : fitD 12 (.str (toPy 12 d).shown) = true := b.ok
    show (if (fitD 12 _ && fitD 12 _) = true then _ else _) = _
    rw [hf]
    simp [eqD]
/-- a bound of the weight, by the datum's form alone -/
def wD : Nat → D → Nat
  | 0, _ => 0
  | n + 1, d => match d with
    | .int _ => 100
    | .str x => x.cps.size
    | .tup xs => (xs.map fun x => wD n x + 1).sum
    | .lst xs => (xs.map fun x => wD n x + 1).sum
    | _ => 0
theorem wD_all {n : Nat} (ih : ∀ d, numD n d = true → (toPy n d).weight ≤ wD n d) : ∀ xs : List D, xs.all (numD n) = true → PyData.weightAll (xs.map (toPy n)) ≤ (xs.map fun x => wD n x + 1).sum
  | [], _ => by simp [PyData.weightAll]
  | x :: xs, h => by
    rw [List.all_cons, Bool.and_eq_true] at h
    have := ih x h.1
    have := wD_all ih xs h.2
    rw [List.map_cons, List.map_cons, List.sum_cons]
    simp only [PyData.weightAll]
    omega
theorem wD_le : ∀ (n : Nat) (d : D), numD n d = true → (toPy n d).weight ≤ wD n d
  | 0, _, h => by cases h
  | n + 1, d, h => by
    cases d with
    | non => simp [toPy, PyData.weight]
    | bl b => simp [toPy, PyData.weight]
    | int i =>
      have h0 : i.natAbs < 2 ^ 20 := by simpa [numD] using h
      simp only [toPy, wD, PyData.weight]
      by_cases z : i = 0
      · subst z; simp
      · rw [if_neg (by simpa using z)]
        have := (Nat.log2_lt (show i.natAbs ≠ 0 by omega)).mpr h0
        omega
    | str x => simp [toPy, PyData.weight, wD]
    | tup xs => simp only [toPy, wD, PyData.weight]; exact wD_all (wD_le n) xs (by simpa [numD] using h)
    | lst xs => simp only [toPy, wD, PyData.weight]; exact wD_all (wD_le n) xs (by simpa [numD] using h)
    | _ => cases h
/-- a value of the law -/
structure Vd (d : D) : Prop where
  nm : numD 12 d = true
  wt : wD 12 d ≤ 600000
theorem repr_vd {d : D} (h : Vd d) : ∃ s, fRepr [d] = .leaf (.str s) ∧ cNe (.str s) (.str s) = .leaf false ∧ cEq (.str s) (.str s) = .leaf true := repr_ok h.nm (Nat.le_trans (wD_le 12 d h.nm) h.wt)
theorem cstr {x : Str} (h : PyData.strOk x = true) : cNe (.str x) (.str x) = .leaf false ∧ cEq (.str x) (.str x) = .leaf true := by
  have hf : fitD 12 (.str x) = true := h
  constructor
  · show (if (fitD 12 _ && fitD 12 _) = true then _ else _) = _
    rw [hf]
    simp [eqD]
  · show (if (fitD 12 _ && fitD 12 _) = true then _ else _) = _
    rw [hf]
    simp [eqD]
theorem repr_dct : ∃ s, fRepr [.dct] = .leaf (.str s) ∧ cNe (.str s) (.str s) = .leaf false ∧ cEq (.str s) (.str s) = .leaf true := ⟨"{}", rfl, (cstr (by decide +kernel)).1, (cstr (by decide +kernel)).2⟩
end R

set_option maxRecDepth 100000
set_option linter.all false
namespace Law
open R PySem L2
local macro_rules | `(tactic| walk_at "ev") => `(tactic| simp only [mDef, En.start, oSeq, oIf, oRet, oSet, oOwn, putOwn_z, putOwn_s, oPar, oNx, oFail, oEx, m2, m1, mA, aCons, aNil, mB, mC, mCh, mT, mNot, mAnd, mOr, mAndV, mOrV, mNotV, mIf, mTup, mLst, mList, asB_b, allS_leaf, wipe_n, wipe_c, wset_z, wset_s, tYesM, oAsg, gPut, gTp, gsCons, gsNil, mSeq, seq_l, seq_t, bind_leaf, bind_fail, lineOk_1, lineOk_2, lineOk_3, mPeek_z, mPeek_s, mVar_z, mVar_s, put_z, put_s, opAdd_i, opSub_i, opNeg_i, cLt_i, cLe_i, cGt_i, cGe_i, cEq_i, cNe_i, fAbs_i, fInt_i, fLen_t, fLen_l, ix0, ix1, Bool.false_eq_true, Bool.not_true, Bool.not_false,
  List.length_cons, List.length_nil, List.map_cons, List.map_nil, List.cons_append, List.nil_append, List.replicate, Nat.reduceAdd, Nat.reduceSub, Nat.zero_add, if_true, if_false, ↓reduceIte])
def whole : D → Bool
  | .int _ => true
  | _ => false
def isFrB : D → Bool
  | .tup [.int a, .int b] => decide (1 ≤ b) && decide (Int.gcd a b = 1)
  | _ => false
theorem isi_t {d : D} {t : String} (h : tyOf d = some t) (c : String) (hc : knownC.contains c = true) : fIsi [d, .ty c] = .leaf (.bl (instB t c)) := by
  show withO (tyOf d) _ = _
  unfold withO
  rw [h]
  exact if_pos hc
theorem ty_num {n : Nat} {d : D} (h : numD n d = true) : ∃ t, tyOf d = some t ∧ whole d = (instB t "int" && !instB t "bool") ∧ (d = d) := by
  cases n with
  | zero => cases h
  | succ n =>
    cases d with
    | non => exact ⟨_, rfl, by decide +kernel, rfl⟩
    | bl b => exact ⟨_, rfl, by show false = _; decide +kernel, rfl⟩
    | int i => exact ⟨_, rfl, by show true = _; decide +kernel, rfl⟩
    | str x => exact ⟨_, rfl, by show false = _; decide +kernel, rfl⟩
    | tup xs => exact ⟨_, rfl, by show false = _; decide +kernel, rfl⟩
    | lst xs => exact ⟨_, rfl, by show false = _; decide +kernel, rfl⟩
    | _ => cases h
theorem wh1 {n : Nat} {d : D} (h : numD n d = true) : f_is_integer [d] = .leaf (.bl (whole d)) := by
  obtain ⟨t, ht, hw, _⟩ := ty_num h
  have k1 := isi_t ht "int" (by decide +kernel)
  have k2 := isi_t ht "bool" (by decide +kernel)
  rw [hw]
  clear ht hw h
  unfold f_is_integer b_is_integer
  generalize instB t "int" = b1 at *
  generalize instB t "bool" = b2 at *
  generalize fIsi = fi at *
  walk_at "ev"
  rw [k1]
  walk_at "ev"
  cases b1
  · walk_at "ev"
    rfl
  · walk_at "ev"
    rw [k2]
    walk_at "ev"
    rfl
theorem bb20 {i : Int} (h : i.natAbs < 2 ^ 20) : i.natAbs < BB := Nat.lt_of_lt_of_le h (by unfold BB; exact Nat.pow_le_pow_right (by omega) (by omega))
theorem frac_loop {x y : Option Slot} {z : List (Option Slot)} : ∀ (f a b : Nat), b < f → oWhile (mC cGt (mPeek 3) (fun _ => .leaf (.int 0))) (oPar 2 3 (aCons (mVar 3) (aCons (m2 opMod (mA fInt (aCons (mPeek 2) aNil)) (mPeek 3)) aNil))) f (x :: y :: some ⟨false, .int a⟩ :: some ⟨false, .int b⟩ :: z) = .leaf (.nx (x :: y :: some ⟨false, .int (Nat.gcd a b : Nat)⟩ :: some ⟨false, .int 0⟩ :: z))
  | 0, a, b, h => by omega
  | f + 1, a, b, h => by
    unfold oWhile
    by_cases e : b = 0
    · subst e
      walk_at "ev"
      simp
    · have hb : (0 : Int) < b := by omega
      walk_at "ev"
      rw [decide_eq_true hb]
      walk_at "ev"
      rw [opMod_i hb]
      walk_at "ev"
      rw [show ((a : Int) % (b : Int)) = ((a % b : Nat) : Int) from rfl, frac_loop f b (a % b) (by have := Nat.mod_lt a (Nat.pos_of_ne_zero e); omega), show Nat.gcd a b = Nat.gcd b (a % b) by rw [Nat.gcd_comm a b, Nat.gcd_rec b a, Nat.gcd_comm]]
theorem bb_fuel {n : Nat} (h : n < BB) : n < FUEL := Nat.lt_trans h (by decide +kernel)
theorem law_frac_fq {t b : Int} (hb : 0 < b) (h1 : b.natAbs < BB) : f_law_frac [.int t, .int b] = .leaf (fq t b) := by
  have hg := gcd_pos' (t := t) (b := b) (by omega)
  have hl := gcd_le' (t := t) (b := b) (by omega)
  have e1 : (if t < 0 then -t else t) = (t.natAbs : Int) := by split <;> omega
  have lp := frac_loop (x := some ⟨false, .int t⟩) (y := some ⟨false, .int b⟩) (z := []) FUEL t.natAbs b.natAbs (bb_fuel h1)
  rw [show ((t.natAbs.gcd b.natAbs : Nat) : Int) = (Int.gcd t b : Int) from rfl, show (b.natAbs : Int) = b by omega] at lp
  have d1 := opDiv_i (i := t) hg (by omega)
  have d2 := opDiv_i (i := b) hg (by omega)
  have hq : fq t b = .tup [.int (t / (Int.gcd t b : Int)), .int (b / (Int.gcd t b : Int))] := rfl
  have hn : decide (b < 0) = false := decide_eq_false (by omega)
  rw [hq]
  clear hq hl h1 hb hg
  unfold f_law_frac b_law_frac
  generalize FUEL = fu at *
  generalize (Int.gcd t b : Int) = g at *
  generalize oWhile = ow at *
  generalize opDiv = od at *
  simp only [mDef, En.start, oSeq, oIf, oRet, oSet, oOwn, putOwn_z, putOwn_s, oPar, oNx, oFail, oEx, _root_.R.m2, _root_.R.m1, _root_.R.mA, aCons, aNil, _root_.R.mB, _root_.R.mC, mCh, _root_.R.mT, mNot, mAnd, mOr, mAndV, mOrV, mNotV, mIf, mTup, mLst, mList, asB_b, allS_leaf, wipe_n, wipe_c, wset_z, wset_s, tYesM, oAsg, gPut, gTp, gsCons, gsNil, mSeq, seq_l, seq_t, bind_leaf, bind_fail, lineOk_1, lineOk_2, lineOk_3, mPeek_z, mPeek_s, mVar_z, mVar_s, put_z, put_s, opAdd_i, opSub_i, opNeg_i, cLt_i, cLe_i, cGt_i, cGe_i, cEq_i, cNe_i, fAbs_i, fInt_i, fLen_t, fLen_l, ix0, ix1, Bool.false_eq_true, Bool.not_true, Bool.not_false, List.length_cons, List.length_nil, List.map_cons, List.map_nil, List.cons_append, List.nil_append, List.replicate, Nat.reduceAdd, Nat.reduceSub, Nat.zero_add, if_true, if_false, ↓reduceIte, hn]
  rw [e1]
  simp only [mDef, En.start, oSeq, oIf, oRet, oSet, oOwn, putOwn_z, putOwn_s, oPar, oNx, oFail, oEx, _root_.R.m2, _root_.R.m1, _root_.R.mA, aCons, aNil, _root_.R.mB, _root_.R.mC, mCh, _root_.R.mT, mNot, mAnd, mOr, mAndV, mOrV, mNotV, mIf, mTup, mLst, mList, asB_b, allS_leaf, wipe_n, wipe_c, wset_z, wset_s, tYesM, oAsg, gPut, gTp, gsCons, gsNil, mSeq, seq_l, seq_t, bind_leaf, bind_fail, lineOk_1, lineOk_2, lineOk_3, mPeek_z, mPeek_s, mVar_z, mVar_s, put_z, put_s, opAdd_i, opSub_i, opNeg_i, cLt_i, cLe_i, cGt_i, cGe_i, cEq_i, cNe_i, fAbs_i, fInt_i, fLen_t, fLen_l, ix0, ix1, Bool.false_eq_true, Bool.not_true, Bool.not_false, List.length_cons, List.length_nil, List.map_cons, List.map_nil, List.cons_append, List.nil_append, List.replicate, Nat.reduceAdd, Nat.reduceSub, Nat.zero_add, if_true, if_false, ↓reduceIte, lp, d1, d2]
theorem law_frac_fr {t b : Int} (hb : 0 < b) (h1 : b.natAbs < BB) : f_law_frac [.int t, .int b] = .leaf (fr ((t : Rat) / (b : Rat))) := by rw [law_frac_fq hb h1, fq_fr hb]
theorem fq_iff {a b : Int} (hb : 0 < b) : eqD 12 (fq a b) (.tup [.int a, .int b]) = decide (Int.gcd a b = 1) := by
  show ((a / (Int.gcd a b : Int) == a) && ((b / (Int.gcd a b : Int) == b) && true)) = _
  by_cases h : Int.gcd a b = 1
  · rw [h]; simp
  · rw [decide_eq_false h]
    have hg := gcd_pos' (t := a) (b := b) (by omega)
    have : (b / (Int.gcd a b : Int) == b) = false := by
      refine beq_eq_false_iff_ne.mpr fun e => h ?_
      have e1 : b / (Int.gcd a b : Int) * (Int.gcd a b : Int) = b := Int.ediv_mul_cancel (Int.gcd_dvd_right ..)
      rw [e] at e1
      have e3 : b * ((Int.gcd a b : Int) - 1) = 0 := by rw [Int.mul_sub, e1]; omega
      rcases Int.mul_eq_zero.mp e3 with z | z <;> omega
    rw [this]
    simp
theorem cEq_num {d e : D} (hd : fitD 12 d = true) (he : fitD 12 e = true) : cEq d e = .leaf (eqD 12 d e) := by
  unfold cEq
  rw [hd, he]
  rfl
theorem fr1_two {n : Nat} (a b : D) (ha : numD (n + 1) a = true) (hb : numD (n + 1) b = true) : f_is_fraction_of [.tup [a, b]] = .leaf (.bl (isFrB (.tup [a, b]))) := by
  have w1 := wh1 ha
  have w2 := wh1 hb
  have k1 : fIsi [.tup [a, b], .ty "tuple"] = .leaf (.bl true) := rfl
  have k2 : fLen [.tup [a, b]] = .leaf (.int 2) := rfl
  have k3 : cNe (.int 2) (.int 2) = .leaf false := rfl
  have i0 := ix0 a [b]
  have i1 := ix1 a b []
  by_cases wa : whole a = true
  · by_cases wb : whole b = true
    · cases a with
      | int a =>
        cases b with
        | int b =>
          have na : a.natAbs < 2 ^ 20 := by simpa [numD] using ha
          have nb : b.natAbs < 2 ^ 20 := by simpa [numD] using hb
          have e : isFrB (.tup [.int a, .int b]) = (decide (1 ≤ b) && decide (Int.gcd a b = 1)) := rfl
          have hge : cGe (.int b) (.int 1) = .leaf (decide (1 ≤ b)) := rfl
          rw [e]
          rw [wa] at w1
          rw [wb] at w2
          have hd : 1 ≤ b → f_divisor [.int (if a < 0 then -a else a), .int b] = .leaf (.int (Int.gcd a b)) := fun h => by
            rw [divisor_eq (by split <;> omega) (by omega) (bb20 nb), abs_gcd]
          have hq : cEq (.int (Int.gcd a b : Int)) (.int 1) = .leaf (decide (Int.gcd a b = 1)) := by
            rw [cEq_i]
            congr 1
            by_cases z : Int.gcd a b = 1
            · rw [z]; rfl
            · rw [decide_eq_false z]
              exact beq_eq_false_iff_ne.mpr (by omega)
          have ab1 := fAbs_i a
          unfold f_is_fraction_of b_is_fraction_of
          clear na nb ha hb wa wb e
          generalize decide (Int.gcd a b = 1) = dg at *
          generalize (Int.gcd a b : Int) = g at *
          generalize (if a < 0 then -a else a) = aa at *
          by_cases h : 1 ≤ b
          · have hd := hd h
            rw [decide_eq_true h] at hge ⊢
            generalize f_divisor = f1 at *
            generalize f_is_integer = f2 at *
            generalize fIsi = f3 at *
            generalize fLen = f4 at *
            generalize cNe = f5 at *
            generalize cGe = f6 at *
            generalize cEq = f7 at *
            generalize fAbs = f8 at *
            generalize opIx = f9 at *
            simp only [mDef, En.start, oSeq, oIf, oRet, oSet, oOwn, putOwn_z, putOwn_s, oPar, oNx, oFail, oEx, _root_.R.m2, _root_.R.m1, _root_.R.mA, aCons, aNil, _root_.R.mB, _root_.R.mC, mCh, _root_.R.mT, mNot, mAnd, mOr, mAndV, mOrV, mNotV, mIf, mTup, mLst, mList, asB_b, allS_leaf, wipe_n, wipe_c, wset_z, wset_s, tYesM, oAsg, gPut, gTp, gsCons, gsNil, mSeq, seq_l, seq_t, bind_leaf, bind_fail, lineOk_1, lineOk_2, lineOk_3, mPeek_z, mPeek_s, mVar_z, mVar_s, put_z, put_s, opAdd_i, opSub_i, opNeg_i, cLt_i, cLe_i, cGt_i, cGe_i, cEq_i, cNe_i, fAbs_i, fInt_i, fLen_t, fLen_l, ix0, ix1, Bool.false_eq_true, Bool.not_true, Bool.not_false, List.length_cons, List.length_nil, List.map_cons, List.map_nil, List.cons_append, List.nil_append, List.replicate, Nat.reduceAdd, Nat.reduceSub, Nat.zero_add, if_true, if_false, ↓reduceIte, k1, k2, k3, i0, w1, i1, w2, hge, ab1, hd, hq]
            rfl
          · clear hd
            rw [decide_eq_false h] at hge ⊢
            generalize f_divisor = f1 at *
            generalize f_is_integer = f2 at *
            generalize fIsi = f3 at *
            generalize fLen = f4 at *
            generalize cNe = f5 at *
            generalize cGe = f6 at *
            generalize cEq = f7 at *
            generalize opIx = f9 at *
            simp only [mDef, En.start, oSeq, oIf, oRet, oSet, oOwn, putOwn_z, putOwn_s, oPar, oNx, oFail, oEx, _root_.R.m2, _root_.R.m1, _root_.R.mA, aCons, aNil, _root_.R.mB, _root_.R.mC, mCh, _root_.R.mT, mNot, mAnd, mOr, mAndV, mOrV, mNotV, mIf, mTup, mLst, mList, asB_b, allS_leaf, wipe_n, wipe_c, wset_z, wset_s, tYesM, oAsg, gPut, gTp, gsCons, gsNil, mSeq, seq_l, seq_t, bind_leaf, bind_fail, lineOk_1, lineOk_2, lineOk_3, mPeek_z, mPeek_s, mVar_z, mVar_s, put_z, put_s, opAdd_i, opSub_i, opNeg_i, cLt_i, cLe_i, cGt_i, cGe_i, cEq_i, cNe_i, fAbs_i, fInt_i, fLen_t, fLen_l, ix0, ix1, Bool.false_eq_true, Bool.not_true, Bool.not_false, List.length_cons, List.length_nil, List.map_cons, List.map_nil, List.cons_append, List.nil_append, List.replicate, Nat.reduceAdd, Nat.reduceSub, Nat.zero_add, if_true, if_false, ↓reduceIte, k1, k2, k3, i0, w1, i1, w2, hge]
            rfl
        | _ => cases wb
      | _ => cases wa
    · have e : isFrB (.tup [a, b]) = false := by
        cases b <;> first | exact absurd rfl wb | (cases a <;> rfl)
      rw [e]
      rw [wa] at w1
      rw [Bool.eq_false_iff.mpr wb] at w2
      unfold f_is_fraction_of b_is_fraction_of
      clear ha hb wa wb e
      generalize f_is_integer = f2 at *
      generalize fIsi = f3 at *
      generalize fLen = f4 at *
      generalize cNe = f5 at *
      walk_at "ev"
      rw [k1]
      walk_at "ev"
      rw [k2]
      walk_at "ev"
      rw [k3]
      walk_at "ev"
      rw [w1]
      walk_at "ev"
      rw [w2]
      walk_at "ev"
  · have e : isFrB (.tup [a, b]) = false := by
      cases a <;> first | exact absurd rfl wa | rfl
    rw [e]
    rw [Bool.eq_false_iff.mpr wa] at w1
    unfold f_is_fraction_of b_is_fraction_of
    clear ha hb wa e
    generalize f_is_integer = f2 at *
    generalize fIsi = f3 at *
    generalize fLen = f4 at *
    generalize cNe = f5 at *
    walk_at "ev"
    rw [k1]
    walk_at "ev"
    rw [k2]
    walk_at "ev"
    rw [k3]
    walk_at "ev"
    rw [w1]
    walk_at "ev"
theorem whole_e {n : Nat} {d : D} (h : numD n d = true) {a : Option Slot} : (mAndV (mA fIsi (aCons (mPeek 1) (aCons (fun _ => .leaf (.ty "int")) aNil))) (mNotV (mA fIsi (aCons (mPeek 1) (aCons (fun _ => .leaf (.ty "bool")) aNil))))) [a, some ⟨false, d⟩] = .leaf (.bl (whole d)) := by
  obtain ⟨t, ht, hw, _⟩ := ty_num h
  have k1 := isi_t ht "int" (by decide +kernel)
  have k2 := isi_t ht "bool" (by decide +kernel)
  rw [hw]
  clear ht hw h
  generalize instB t "int" = b1 at *
  generalize instB t "bool" = b2 at *
  generalize fIsi = fi at *
  walk_at "ev"
  rw [k1]
  walk_at "ev"
  cases b1
  · walk_at "ev"
    rfl
  · walk_at "ev"
    rw [k2]
    walk_at "ev"
    rfl
theorem fr2_two {n : Nat} (a b : D) (ha : numD (n + 1) a = true) (hb : numD (n + 1) b = true) : f_law_is_fraction [.tup [a, b]] = .leaf (.bl (isFrB (.tup [a, b]))) := by
  have k1 : fIsi [.tup [a, b], .ty "tuple"] = .leaf (.bl true) := rfl
  have k2 : fLen [.tup [a, b]] = .leaf (.int 2) := rfl
  have k3 : cNe (.int 2) (.int 2) = .leaf false := rfl
  have i0 := ix0 a [b]
  have i1 := ix1 a b []
  have hc : mLc (mSeq (mPeek 0)) [1] (gPut 1) tYesM (mAndV (mA fIsi (aCons (mPeek 1) (aCons (fun _ => .leaf (.ty "int")) aNil))) (mNotV (mA fIsi (aCons (mPeek 1) (aCons (fun _ => .leaf (.ty "bool")) aNil))))) [some ⟨false, .tup [a, b]⟩, none] = .leaf [.bl (whole a), .bl (whole b)] := by
    refine mLc_at (L := [a, b]) (dx := id) (f := fun x => .bl (whole x)) (by walk_at "ev"; rfl) (by rw [List.length_cons, List.length_singleton]; decide) fun x hx => ⟨[some ⟨false, .tup [a, b]⟩, some ⟨false, x⟩], by walk_at "ev"; rfl, rfl, ?_⟩
    have nx : numD (n + 1) x = true := by
      simp only [List.mem_cons, List.not_mem_nil, or_false] at hx
      rcases hx with e | e
      · rw [e]; exact ha
      · rw [e]; exact hb
    exact whole_e nx
  have hall : fAll [.lst [.bl (whole a), .bl (whole b)]] = .leaf (.bl (whole a && whole b)) := by
    show Tree.leaf (D.bl ([whole a, whole b].all fun b => b)) = _
    simp
  by_cases wab : (whole a && whole b) = true
  · rw [wab] at hall
    rw [Bool.and_eq_true] at wab
    obtain ⟨wa, wb⟩ := wab
    cases a with
    | int a =>
      cases b with
      | int b =>
        have na : a.natAbs < 2 ^ 20 := by simpa [numD] using ha
        have nb : b.natAbs < 2 ^ 20 := by simpa [numD] using hb
        have e : isFrB (.tup [.int a, .int b]) = (decide (1 ≤ b) && decide (Int.gcd a b = 1)) := rfl
        have hge : cGt (.int b) (.int 0) = .leaf (decide (1 ≤ b)) := rfl
        rw [e]
        have hd : 1 ≤ b → f_law_frac [.int a, .int b] = .leaf (fq a b) ∧ cEq (fq a b) (.tup [.int a, .int b]) = .leaf (decide (Int.gcd a b = 1)) := fun h => by
          refine ⟨law_frac_fq (by omega) (bb20 nb), ?_⟩
          rw [cEq_num rfl rfl, fq_iff (by omega)]
        unfold f_law_is_fraction b_law_is_fraction
        clear na nb ha hb wa wb e
        generalize decide (Int.gcd a b = 1) = dg at *
        by_cases h : 1 ≤ b
        · obtain ⟨hd1, he⟩ := hd h
          clear hd
          rw [decide_eq_true h] at hge ⊢
          generalize fq a b = q at *
          generalize D.bl (whole (.int a)) = b1 at *
          generalize D.bl (whole (.int b)) = b2 at *
          generalize f_law_frac = f1 at *
          generalize fAll = f2 at *
          generalize fIsi = f3 at *
          generalize fLen = f4 at *
          generalize cNe = f5 at *
          generalize cGt = f6 at *
          generalize cEq = f7 at *
          generalize opIx = f9 at *
          generalize mLc = ml at *
          simp only [mDef, En.start, oSeq, oIf, oRet, oSet, oOwn, putOwn_z, putOwn_s, oPar, oNx, oFail, oEx, _root_.R.m2, _root_.R.m1, _root_.R.mA, aCons, aNil, _root_.R.mB, _root_.R.mC, mCh, _root_.R.mT, mNot, mAnd, mOr, mAndV, mOrV, mNotV, mIf, mTup, mLst, mList, asB_b, allS_leaf, wipe_n, wipe_c, wset_z, wset_s, tYesM, oAsg, gPut, gTp, gsCons, gsNil, mSeq, seq_l, seq_t, bind_leaf, bind_fail, lineOk_1, lineOk_2, lineOk_3, mPeek_z, mPeek_s, mVar_z, mVar_s, put_z, put_s, opAdd_i, opSub_i, opNeg_i, cLt_i, cLe_i, cGt_i, cGe_i, cEq_i, cNe_i, fAbs_i, fInt_i, fLen_t, fLen_l, ix0, ix1, Bool.false_eq_true, Bool.not_true, Bool.not_false, List.length_cons, List.length_nil, List.map_cons, List.map_nil, List.cons_append, List.nil_append, List.replicate, Nat.reduceAdd, Nat.reduceSub, Nat.zero_add, if_true, if_false, ↓reduceIte, k1, k2, k3, hc, hall, i1, hge, i0, hd1, he]
          rfl
        · clear hd
          rw [decide_eq_false h] at hge ⊢
          generalize D.bl (whole (.int a)) = b1 at *
          generalize D.bl (whole (.int b)) = b2 at *
          generalize fAll = f2 at *
          generalize fIsi = f3 at *
          generalize fLen = f4 at *
          generalize cNe = f5 at *
          generalize cGt = f6 at *
          generalize opIx = f9 at *
          generalize mLc = ml at *
          simp only [mDef, En.start, oSeq, oIf, oRet, oSet, oOwn, putOwn_z, putOwn_s, oPar, oNx, oFail, oEx, _root_.R.m2, _root_.R.m1, _root_.R.mA, aCons, aNil, _root_.R.mB, _root_.R.mC, mCh, _root_.R.mT, mNot, mAnd, mOr, mAndV, mOrV, mNotV, mIf, mTup, mLst, mList, asB_b, allS_leaf, wipe_n, wipe_c, wset_z, wset_s, tYesM, oAsg, gPut, gTp, gsCons, gsNil, mSeq, seq_l, seq_t, bind_leaf, bind_fail, lineOk_1, lineOk_2, lineOk_3, mPeek_z, mPeek_s, mVar_z, mVar_s, put_z, put_s, opAdd_i, opSub_i, opNeg_i, cLt_i, cLe_i, cGt_i, cGe_i, cEq_i, cNe_i, fAbs_i, fInt_i, fLen_t, fLen_l, ix0, ix1, Bool.false_eq_true, Bool.not_true, Bool.not_false, List.length_cons, List.length_nil, List.map_cons, List.map_nil, List.cons_append, List.nil_append, List.replicate, Nat.reduceAdd, Nat.reduceSub, Nat.zero_add, if_true, if_false, ↓reduceIte, k1, k2, k3, hc, hall, i1, hge]
          rfl
      | _ => cases wb
    | _ => cases wa
  · have e : isFrB (.tup [a, b]) = false := by
      cases a <;> first | (cases b <;> first | exact absurd rfl wab | rfl) | rfl
    rw [e]
    rw [Bool.eq_false_iff.mpr wab] at hall
    unfold f_law_is_fraction b_law_is_fraction
    clear ha hb wab e
    generalize D.bl (whole a) = b1 at *
    generalize D.bl (whole b) = b2 at *
    generalize fAll = f2 at *
    generalize fIsi = f3 at *
    generalize fLen = f4 at *
    generalize cNe = f5 at *
    generalize mLc = ml at *
    walk_at "ev"
    rw [k1]
    walk_at "ev"
    rw [k2]
    walk_at "ev"
    rw [k3]
    walk_at "ev"
    rw [hc]
    walk_at "ev"
    rw [hall]
    walk_at "ev"
end Law

set_option maxRecDepth 100000
set_option linter.all false
namespace Law
open R PySem L2
local macro_rules | `(tactic| walk_at "ev") => `(tactic| simp only [mDef, En.start, oSeq, oIf, oRet, oSet, oOwn, putOwn_z, putOwn_s, oPar, oNx, oFail, oEx, m2, m1, mA, aCons, aNil, mB, mC, mCh, mT, mNot, mAnd, mOr, mAndV, mOrV, mNotV, mIf, mTup, mLst, mList, asB_b, allS_leaf, wipe_n, wipe_c, wset_z, wset_s, tYesM, oAsg, gPut, gTp, gsCons, gsNil, mSeq, seq_l, seq_t, bind_leaf, bind_fail, lineOk_1, lineOk_2, lineOk_3, mPeek_z, mPeek_s, mVar_z, mVar_s, put_z, put_s, opAdd_i, opSub_i, opNeg_i, cLt_i, cLe_i, cGt_i, cGe_i, cEq_i, cNe_i, fAbs_i, fInt_i, fLen_t, fLen_l, ix0, ix1, Bool.false_eq_true, Bool.not_true, Bool.not_false,
  List.length_cons, List.length_nil, List.map_cons, List.map_nil, List.cons_append, List.nil_append, List.replicate, Nat.reduceAdd, Nat.reduceSub, Nat.zero_add, if_true, if_false, ↓reduceIte])
theorem law_plus_fr {p q : Rat} (hp : Sz 4000 p) (hq : Sz 4000 q) : f_law_plus [fr p, fr q] = .leaf (fr (p + q)) := by
  obtain ⟨a1, a2⟩ := sz_ba hp (by omega)
  obtain ⟨b1, b2⟩ := sz_ba hq (by omega)
  have hL := ba_le
  have h2 := nmul a2 b2
  have hB := bab
  have k := law_frac_fr (t := p.num * q.den + q.num * p.den) (Int.mul_pos (den_pos' p) (den_pos' q)) (by omega)
  rw [frac_add] at k
  have o1 := opMul_i (i := p.num) (j := q.den) (by omega) (by omega)
  have o2 := opMul_i (i := q.num) (j := p.den) (by omega) (by omega)
  have o3 := opMul_i (i := p.den) (j := q.den) (by omega) (by omega)
  generalize hz : fr (p + q) = z at *
  clear hz h2 a1 a2 b1 b2 hp hq
  unfold fr f_law_plus b_law_plus
  generalize (p.den : Int) = pd at *
  generalize (q.den : Int) = qd at *
  generalize f_law_frac = ff at *
  generalize opMul = om at *
  walk_at "ev"
  rw [o1]
  walk_at "ev"
  rw [o2]
  walk_at "ev"
  rw [o3]
  walk_at "ev"
  rw [k]
  walk_at "ev"
theorem law_times_fr {p q : Rat} (hp : Sz 4000 p) (hq : Sz 4000 q) : f_law_times [fr p, fr q] = .leaf (fr (p * q)) := by
  obtain ⟨a1, a2⟩ := sz_ba hp (by omega)
  obtain ⟨b1, b2⟩ := sz_ba hq (by omega)
  have hL := ba_le
  have h2 := nmul a2 b2
  have hB := bab
  have k := law_frac_fr (t := p.num * q.num) (Int.mul_pos (den_pos' p) (den_pos' q)) (by omega)
  rw [frac_mul] at k
  have o1 := opMul_i (i := p.num) (j := q.num) (by omega) (by omega)
  have o3 := opMul_i (i := p.den) (j := q.den) (by omega) (by omega)
  generalize hz : fr (p * q) = z at *
  clear hz h2 a1 a2 b1 b2 hp hq
  unfold fr f_law_times b_law_times
  generalize (p.den : Int) = pd at *
  generalize (q.den : Int) = qd at *
  generalize f_law_frac = ff at *
  generalize opMul = om at *
  walk_at "ev"
  rw [o1]
  walk_at "ev"
  rw [o3]
  walk_at "ev"
  rw [k]
  walk_at "ev"
theorem law_below_fr {p q : Rat} (hp : Sz 4000 p) (hq : Sz 4000 q) : f_law_below [fr p, fr q] = .leaf (.bl (decide (p < q))) := by
  obtain ⟨a1, a2⟩ := sz_ba hp (by omega)
  obtain ⟨b1, b2⟩ := sz_ba hq (by omega)
  have hL := ba_le
  have o1 := opMul_i (i := p.num) (j := q.den) (by omega) (by omega)
  have o2 := opMul_i (i := q.num) (j := p.den) (by omega) (by omega)
  rw [show decide (p < q) = decide (p.num * q.den < q.num * p.den) from decide_eq_decide.mpr (Rat.lt_iff p q)]
  clear a1 a2 b1 b2 hp hq
  unfold fr f_law_below b_law_below
  generalize (p.den : Int) = pd at *
  generalize (q.den : Int) = qd at *
  generalize opMul = om at *
  walk_at "ev"
  rw [o1]
  walk_at "ev"
  rw [o2]
  walk_at "ev"
theorem law_sum_loop {p : Option Slot} {n : Nat} : ∀ (L : List Rat) (a : Rat) (x : Option Slot) (m : Nat), Sz m a → (∀ q ∈ L, Sz n q) → m + L.length * (n + 1) ≤ 4000 → n ≤ 4000 →
    ∃ y, oLoop (gPut 2) (oSet 1 (mA f_law_plus (aCons (mVar 1) (aCons (mVar 2) aNil)))) (L.map fr) [p, some ⟨false, fr a⟩, x] = .leaf (.nx [p, some ⟨false, fr (a + L.sum)⟩, y])
  | [], a, x, m, _, _, _, _ => ⟨x, by rw [show a + ([] : List Rat).sum = a by simp; grind]; rfl⟩
  | q :: L, a, x, m, ha, hL, hm, hn => by
    have hm : m + (L.length + 1) * (n + 1) ≤ 4000 := hm
    have e : (L.length + 1) * (n + 1) = L.length * (n + 1) + (n + 1) := Nat.succ_mul _ _
    have hq := hL q List.mem_cons_self
    obtain ⟨y, ih⟩ := law_sum_loop (p := p) (n := n) L (a + q) (some ⟨false, fr q⟩) (m + n + 1) (sz_add ha hq) (fun q hq => hL q (List.mem_cons_of_mem _ hq)) (by omega) hn
    refine ⟨y, ?_⟩
    have k := law_plus_fr (ha.mono (m := 4000) (by omega)) (hq.mono (m := 4000) hn)
    rw [List.map_cons]
    unfold oLoop
    generalize f_law_plus = fa at *
    walk_at "ev"
    rw [k]
    walk_at "ev"
    rw [ih, List.sum_cons, Rat.add_assoc]
theorem law_sum_l {n : Nat} (L : List Rat) (hL : ∀ q ∈ L, Sz n q) (h : 1 + L.length * (n + 1) ≤ 4000) (hn : n ≤ 4000) : f_law_sum [.lst (L.map fr)] = .leaf (fr L.sum) := by
  obtain ⟨y, hl⟩ := law_sum_loop (p := some ⟨false, .lst (L.map fr)⟩) L 0 none 1 (sz_zero 1 (by omega)) hL h hn
  rw [show (0 : Rat) + L.sum = L.sum by grind, fr_zero] at hl
  unfold f_law_sum b_law_sum
  generalize f_law_plus = fa at *
  have hs : mSeq (mVar 0) [some ⟨false, .lst (L.map fr)⟩, some ⟨false, .tup [.int 0, .int 1]⟩, none] = .leaf (L.map fr) := by walk_at "ev"
  have hf := for_at hs hl
  generalize oFor = ff at *
  generalize L.map fr = z at *
  walk_at "ev"
  rw [hf]
  walk_at "ev"
theorem law_sum_t {n : Nat} (L : List Rat) (hL : ∀ q ∈ L, Sz n q) (h : 1 + L.length * (n + 1) ≤ 4000) (hn : n ≤ 4000) : f_law_sum [.tup (L.map fr)] = .leaf (fr L.sum) := by
  obtain ⟨y, hl⟩ := law_sum_loop (p := some ⟨false, .tup (L.map fr)⟩) L 0 none 1 (sz_zero 1 (by omega)) hL h hn
  rw [show (0 : Rat) + L.sum = L.sum by grind, fr_zero] at hl
  unfold f_law_sum b_law_sum
  generalize f_law_plus = fa at *
  have hs : mSeq (mVar 0) [some ⟨false, .tup (L.map fr)⟩, some ⟨false, .tup [.int 0, .int 1]⟩, none] = .leaf (L.map fr) := by walk_at "ev"
  have hf := for_at hs hl
  generalize oFor = ff at *
  generalize L.map fr = z at *
  walk_at "ev"
  rw [hf]
  walk_at "ev"
theorem nt1 {d : D} {m : D} (h : fIsi [d, .ty "tuple"] = .leaf (.bl false)) : f_is_fraction_of [d] = .leaf (.bl false) ∧ f_law_is_fraction [d] = .leaf (.bl false) ∧ f_is_lot_of [d] = .leaf (.bl false) ∧ f_law_is_lot [d, m] = .leaf (.bl false) := by
  refine ⟨?_, ?_, ?_, ?_⟩
  · unfold f_is_fraction_of b_is_fraction_of
    generalize fIsi = fi at *
    simp only [mDef, En.start, oSeq, oIf, oRet, oSet, oOwn, putOwn_z, putOwn_s, oPar, oNx, oFail, oEx, _root_.R.m2, _root_.R.m1, _root_.R.mA, aCons, aNil, _root_.R.mB, _root_.R.mC, mCh, _root_.R.mT, mNot, mAnd, mOr, mAndV, mOrV, mNotV, mIf, mTup, mLst, mList, asB_b, allS_leaf, wipe_n, wipe_c, wset_z, wset_s, tYesM, oAsg, gPut, gTp, gsCons, gsNil, mSeq, seq_l, seq_t, bind_leaf, bind_fail, lineOk_1, lineOk_2, lineOk_3, mPeek_z, mPeek_s, mVar_z, mVar_s, put_z, put_s, opAdd_i, opSub_i, opNeg_i, cLt_i, cLe_i, cGt_i, cGe_i, cEq_i, cNe_i, fAbs_i, fInt_i, fLen_t, fLen_l, ix0, ix1, Bool.false_eq_true, Bool.not_true, Bool.not_false, List.length_cons, List.length_nil, List.map_cons, List.map_nil, List.cons_append, List.nil_append, List.replicate, Nat.reduceAdd, Nat.reduceSub, Nat.zero_add, if_true, if_false, ↓reduceIte, h]
  · unfold f_law_is_fraction b_law_is_fraction
    generalize fIsi = fi at *
    simp only [mDef, En.start, oSeq, oIf, oRet, oSet, oOwn, putOwn_z, putOwn_s, oPar, oNx, oFail, oEx, _root_.R.m2, _root_.R.m1, _root_.R.mA, aCons, aNil, _root_.R.mB, _root_.R.mC, mCh, _root_.R.mT, mNot, mAnd, mOr, mAndV, mOrV, mNotV, mIf, mTup, mLst, mList, asB_b, allS_leaf, wipe_n, wipe_c, wset_z, wset_s, tYesM, oAsg, gPut, gTp, gsCons, gsNil, mSeq, seq_l, seq_t, bind_leaf, bind_fail, lineOk_1, lineOk_2, lineOk_3, mPeek_z, mPeek_s, mVar_z, mVar_s, put_z, put_s, opAdd_i, opSub_i, opNeg_i, cLt_i, cLe_i, cGt_i, cGe_i, cEq_i, cNe_i, fAbs_i, fInt_i, fLen_t, fLen_l, ix0, ix1, Bool.false_eq_true, Bool.not_true, Bool.not_false, List.length_cons, List.length_nil, List.map_cons, List.map_nil, List.cons_append, List.nil_append, List.replicate, Nat.reduceAdd, Nat.reduceSub, Nat.zero_add, if_true, if_false, ↓reduceIte, h]
  · unfold f_is_lot_of b_is_lot_of
    generalize fIsi = fi at *
    simp only [mDef, En.start, oSeq, oIf, oRet, oSet, oOwn, putOwn_z, putOwn_s, oPar, oNx, oFail, oEx, _root_.R.m2, _root_.R.m1, _root_.R.mA, aCons, aNil, _root_.R.mB, _root_.R.mC, mCh, _root_.R.mT, mNot, mAnd, mOr, mAndV, mOrV, mNotV, mIf, mTup, mLst, mList, asB_b, allS_leaf, wipe_n, wipe_c, wset_z, wset_s, tYesM, oAsg, gPut, gTp, gsCons, gsNil, mSeq, seq_l, seq_t, bind_leaf, bind_fail, lineOk_1, lineOk_2, lineOk_3, mPeek_z, mPeek_s, mVar_z, mVar_s, put_z, put_s, opAdd_i, opSub_i, opNeg_i, cLt_i, cLe_i, cGt_i, cGe_i, cEq_i, cNe_i, fAbs_i, fInt_i, fLen_t, fLen_l, ix0, ix1, Bool.false_eq_true, Bool.not_true, Bool.not_false, List.length_cons, List.length_nil, List.map_cons, List.map_nil, List.cons_append, List.nil_append, List.replicate, Nat.reduceAdd, Nat.reduceSub, Nat.zero_add, if_true, if_false, ↓reduceIte, h]
  · unfold f_law_is_lot b_law_is_lot
    generalize fIsi = fi at *
    simp only [mDef, En.start, oSeq, oIf, oRet, oSet, oOwn, putOwn_z, putOwn_s, oPar, oNx, oFail, oEx, _root_.R.m2, _root_.R.m1, _root_.R.mA, aCons, aNil, _root_.R.mB, _root_.R.mC, mCh, _root_.R.mT, mNot, mAnd, mOr, mAndV, mOrV, mNotV, mIf, mTup, mLst, mList, asB_b, allS_leaf, wipe_n, wipe_c, wset_z, wset_s, tYesM, oAsg, gPut, gTp, gsCons, gsNil, mSeq, seq_l, seq_t, bind_leaf, bind_fail, lineOk_1, lineOk_2, lineOk_3, mPeek_z, mPeek_s, mVar_z, mVar_s, put_z, put_s, opAdd_i, opSub_i, opNeg_i, cLt_i, cLe_i, cGt_i, cGe_i, cEq_i, cNe_i, fAbs_i, fInt_i, fLen_t, fLen_l, ix0, ix1, Bool.false_eq_true, Bool.not_true, Bool.not_false, List.length_cons, List.length_nil, List.map_cons, List.map_nil, List.cons_append, List.nil_append, List.replicate, Nat.reduceAdd, Nat.reduceSub, Nat.zero_add, if_true, if_false, ↓reduceIte, h]
theorem nt_num {n : Nat} {d : D} (h : numD n d = true) : (∃ xs, d = .tup xs) ∨ (fIsi [d, .ty "tuple"] = .leaf (.bl false) ∧ isFrB d = false) := by
  cases n with
  | zero => cases h
  | succ n =>
    cases d with
    | tup xs => exact .inl ⟨xs, rfl⟩
    | non => exact .inr ⟨rfl, rfl⟩
    | bl b => exact .inr ⟨rfl, rfl⟩
    | int i => exact .inr ⟨rfl, rfl⟩
    | str x => exact .inr ⟨rfl, rfl⟩
    | lst xs => exact .inr ⟨rfl, rfl⟩
    | _ => cases h
theorem len2 {xs : List D} (h : xs.length ≠ 2) : f_is_fraction_of [.tup xs] = .leaf (.bl false) ∧ f_law_is_fraction [.tup xs] = .leaf (.bl false) := by
  have k1 : fIsi [.tup xs, .ty "tuple"] = .leaf (.bl true) := rfl
  have k2 := fLen_t xs
  have k3 := cNe_i (xs.length : Int) 2
  rw [show (!((xs.length : Int) == 2)) = true by
    rw [Bool.not_eq_true', beq_eq_false_iff_ne]
    omega] at k3
  generalize (xs.length : Int) = n at *
  generalize D.tup xs = t at *
  refine ⟨?_, ?_⟩
  · unfold f_is_fraction_of b_is_fraction_of
    generalize fIsi = fi at *
    generalize fLen = fl at *
    generalize cNe = ce at *
    simp only [mDef, En.start, oSeq, oIf, oRet, oSet, oOwn, putOwn_z, putOwn_s, oPar, oNx, oFail, oEx, _root_.R.m2, _root_.R.m1, _root_.R.mA, aCons, aNil, _root_.R.mB, _root_.R.mC, mCh, _root_.R.mT, mNot, mAnd, mOr, mAndV, mOrV, mNotV, mIf, mTup, mLst, mList, asB_b, allS_leaf, wipe_n, wipe_c, wset_z, wset_s, tYesM, oAsg, gPut, gTp, gsCons, gsNil, mSeq, seq_l, seq_t, bind_leaf, bind_fail, lineOk_1, lineOk_2, lineOk_3, mPeek_z, mPeek_s, mVar_z, mVar_s, put_z, put_s, opAdd_i, opSub_i, opNeg_i, cLt_i, cLe_i, cGt_i, cGe_i, cEq_i, cNe_i, fAbs_i, fInt_i, fLen_t, fLen_l, ix0, ix1, Bool.false_eq_true, Bool.not_true, Bool.not_false, List.length_cons, List.length_nil, List.map_cons, List.map_nil, List.cons_append, List.nil_append, List.replicate, Nat.reduceAdd, Nat.reduceSub, Nat.zero_add, if_true, if_false, ↓reduceIte, k1, k2, k3]
  · unfold f_law_is_fraction b_law_is_fraction
    generalize fIsi = fi at *
    generalize fLen = fl at *
    generalize cNe = ce at *
    simp only [mDef, En.start, oSeq, oIf, oRet, oSet, oOwn, putOwn_z, putOwn_s, oPar, oNx, oFail, oEx, _root_.R.m2, _root_.R.m1, _root_.R.mA, aCons, aNil, _root_.R.mB, _root_.R.mC, mCh, _root_.R.mT, mNot, mAnd, mOr, mAndV, mOrV, mNotV, mIf, mTup, mLst, mList, asB_b, allS_leaf, wipe_n, wipe_c, wset_z, wset_s, tYesM, oAsg, gPut, gTp, gsCons, gsNil, mSeq, seq_l, seq_t, bind_leaf, bind_fail, lineOk_1, lineOk_2, lineOk_3, mPeek_z, mPeek_s, mVar_z, mVar_s, put_z, put_s, opAdd_i, opSub_i, opNeg_i, cLt_i, cLe_i, cGt_i, cGe_i, cEq_i, cNe_i, fAbs_i, fInt_i, fLen_t, fLen_l, ix0, ix1, Bool.false_eq_true, Bool.not_true, Bool.not_false, List.length_cons, List.length_nil, List.map_cons, List.map_nil, List.cons_append, List.nil_append, List.replicate, Nat.reduceAdd, Nat.reduceSub, Nat.zero_add, if_true, if_false, ↓reduceIte, k1, k2, k3]
theorem frac_eq {n : Nat} {d : D} (h : numD (n + 2) d = true) : f_is_fraction_of [d] = .leaf (.bl (isFrB d)) ∧ f_law_is_fraction [d] = .leaf (.bl (isFrB d)) := by
  rcases nt_num h with ⟨xs, rfl⟩ | ⟨h1, h2⟩
  · have hx : xs.all (numD (n + 1)) = true := by simpa [numD] using h
    match xs, hx with
    | [], _ => exact len2 (by simp)
    | [a], _ => 
      have := len2 (xs := [a]) (by simp)
      have e : isFrB (.tup [a]) = false := by cases a <;> rfl
      rw [e]; exact this
    | [a, b], hx =>
      simp only [List.all_cons, List.all_nil, Bool.and_true, Bool.and_eq_true] at hx
      exact ⟨fr1_two a b hx.1 hx.2, fr2_two a b hx.1 hx.2⟩
    | a :: b :: c :: r, _ =>
      have := len2 (xs := a :: b :: c :: r) (by simp)
      have e : isFrB (.tup (a :: b :: c :: r)) = false := by cases a <;> first | rfl | (cases b <;> rfl)
      rw [e]; exact this
  · obtain ⟨a, b, _, _⟩ := nt1 (m := .non) h1
    rw [h2]
    exact ⟨a, b⟩
theorem isFr_q {n : Nat} {x : D} (h : numD (n + 2) x = true) (hx : isFrB x = true) : ∃ q, x = fr q ∧ Sz 20 q := by
  unfold isFrB at hx
  split at hx
  · rename_i a b
    simp only [Bool.and_eq_true, decide_eq_true_eq] at hx
    have hh : ([.int a, .int b] : List D).all (numD (n + 1)) = true := by simpa [numD] using h
    simp only [List.all_cons, List.all_nil, Bool.and_true, Bool.and_eq_true] at hh
    have na : a.natAbs < 2 ^ 20 := by simpa [numD] using hh.1
    have nb : b.natAbs < 2 ^ 20 := by simpa [numD] using hh.2
    refine ⟨(a : Rat) / (b : Rat), ?_, sz_div (by omega) na nb⟩
    rw [← fq_fr (by omega), fq_of hx.2]
  · cases hx
theorem isFr_fr (q : Rat) : isFrB (fr q) = true := by
  unfold fr isFrB
  simp only [Bool.and_eq_true, decide_eq_true_eq]
  exact ⟨by have := den_pos' q; omega, by have := q.reduced; exact this⟩
def nnD : D → Bool
  | .tup (.int a :: _) => decide (0 ≤ a)
  | _ => false
theorem nn_fr (q : Rat) : nnD (fr q) = decide (0 ≤ q.num) := rfl
theorem lots_q {n : Nat} : ∀ xs : List D, xs.all (numD (n + 2)) = true → xs.all isFrB = true → ∃ Q : List Rat, xs = Q.map fr ∧ ∀ q ∈ Q, Sz 20 q
  | [], _, _ => ⟨[], rfl, fun _ h => nomatch h⟩
  | x :: xs, h, hx => by
    rw [List.all_cons, Bool.and_eq_true] at h hx
    obtain ⟨q, rfl, hq⟩ := isFr_q h.1 hx.1
    obtain ⟨Q, rfl, hQ⟩ := lots_q xs h.2 hx.2
    exact ⟨q :: Q, rfl, fun p hp => (List.mem_cons.mp hp).elim (fun e => e ▸ hq) (hQ p)⟩
theorem bls_bl {β : Type} (t : β → Bool) : ∀ L : List β, blsD (L.map fun x => D.bl (t x)) = some (L.map t)
  | [] => rfl
  | x :: L => by rw [List.map_cons, List.map_cons]; unfold blsD; rw [bls_bl t L]; rfl
theorem all_bl {β : Type} (t : β → Bool) (L : List β) : fAll [.lst (L.map fun x => D.bl (t x))] = .leaf (.bl (L.all t)) := by
  show withO _ _ = _
  unfold withO
  rw [bls_bl]
  show Tree.leaf (D.bl ((L.map t).all fun b => b)) = _
  rw [List.all_map]
  rfl
/-- a fraction's number -/
def qOf : D → Rat
  | .tup [.int a, .int b] => (a : Rat) / (b : Rat)
  | _ => 0
theorem qOf_fr (q : Rat) : qOf (fr q) = q := by
  show (q.num : Rat) / ((q.den : Int) : Rat) = q
  have e : fq q.num q.den = fr ((q.num : Rat) / ((q.den : Int) : Rat)) := fq_fr (den_pos' q)
  rw [← fr_fq] at e
  exact (fr_inj e).symm
theorem qOf_map : ∀ Q : List Rat, (Q.map fr).map qOf = Q
  | [] => rfl
  | q :: Q => by rw [List.map_cons, List.map_cons, qOf_fr, qOf_map Q]
/-- the lots -/
def isLotB : D → Bool
  | .tup xs => decide (1 ≤ xs.length) && (decide (xs.length ≤ 8) && ((xs.all fun x => isFrB x && nnD x) && decide ((xs.map qOf).sum = 1)))
  | _ => false
theorem lot_in {n : Nat} {xs : List D} (h : xs.all (numD (n + 2)) = true) (l1 : 1 ≤ xs.length) (l8 : xs.length ≤ 8) : f_is_lot_of [.tup xs] = .leaf (.bl (isLotB (.tup xs))) ∧ f_law_is_lot [.tup xs, .int 8] = .leaf (.bl (isLotB (.tup xs))) := by
  have hx : ∀ x ∈ xs, numD (n + 2) x = true := fun x hx => List.all_eq_true.mp h x hx
  have k1 : fIsi [.tup xs, .ty "tuple"] = .leaf (.bl true) := rfl
  have k2 := fLen_t xs
  have el : ∀ (f : List D → Tree D) (i : Nat) (x : D) (k : f [x] = .leaf (.bl (isFrB x))) (hn : numD (n + 2) x = true), (isFrB x = false → f [x] = .leaf (.bl false)) ∧ (isFrB x = true → ∃ q, x = fr q ∧ f [fr q] = .leaf (.bl true)) := fun f i x k hn => ⟨fun e => e ▸ k, fun e => by
    obtain ⟨q, rfl, _⟩ := isFr_q hn e
    exact ⟨q, rfl, e ▸ k⟩⟩
  have c1 : mLc (mSeq (mPeek 0)) [2] (gPut 2) tYesM (mAndV (mA f_law_is_fraction (aCons (mVar 2) aNil)) (mB (mC cGe (m2 opIx (mPeek 2) (fun _ => .leaf (.int 0))) (fun _ => .leaf (.int 0))))) [some ⟨false, .tup xs⟩, some ⟨false, .int 8⟩, none] = .leaf (xs.map fun x => .bl (isFrB x && nnD x)) := by
    refine mLc_at (L := xs) (dx := id) (f := fun x => .bl (isFrB x && nnD x)) (by walk_at "ev"; rw [List.map_id]) (by omega) fun x hh => ⟨[some ⟨false, .tup xs⟩, some ⟨false, .int 8⟩, some ⟨false, x⟩], by walk_at "ev"; rfl, rfl, ?_⟩
    have k := (frac_eq (hx x hh)).2
    cases e : isFrB x
    · rw [e] at k
      generalize f_law_is_fraction = ff at *
      simp only [mDef, En.start, oSeq, oIf, oRet, oSet, oOwn, putOwn_z, putOwn_s, oPar, oNx, oFail, oEx, _root_.R.m2, _root_.R.m1, _root_.R.mA, aCons, aNil, _root_.R.mB, _root_.R.mC, mCh, _root_.R.mT, mNot, mAnd, mOr, mAndV, mOrV, mNotV, mIf, mTup, mLst, mList, asB_b, allS_leaf, wipe_n, wipe_c, wset_z, wset_s, tYesM, oAsg, gPut, gTp, gsCons, gsNil, mSeq, seq_l, seq_t, bind_leaf, bind_fail, lineOk_1, lineOk_2, lineOk_3, mPeek_z, mPeek_s, mVar_z, mVar_s, put_z, put_s, opAdd_i, opSub_i, opNeg_i, cLt_i, cLe_i, cGt_i, cGe_i, cEq_i, cNe_i, fAbs_i, fInt_i, fLen_t, fLen_l, ix0, ix1, Bool.false_eq_true, Bool.not_true, Bool.not_false, List.length_cons, List.length_nil, List.map_cons, List.map_nil, List.cons_append, List.nil_append, List.replicate, Nat.reduceAdd, Nat.reduceSub, Nat.zero_add, if_true, if_false, ↓reduceIte, k]
      rfl
    · obtain ⟨q, rfl, _⟩ := isFr_q (hx x hh) e
      rw [e] at k
      rw [nn_fr]
      unfold fr at *
      generalize f_law_is_fraction = ff at *
      generalize (q.den : Int) = qd at *
      generalize q.num = qn at *
      simp only [mDef, En.start, oSeq, oIf, oRet, oSet, oOwn, putOwn_z, putOwn_s, oPar, oNx, oFail, oEx, _root_.R.m2, _root_.R.m1, _root_.R.mA, aCons, aNil, _root_.R.mB, _root_.R.mC, mCh, _root_.R.mT, mNot, mAnd, mOr, mAndV, mOrV, mNotV, mIf, mTup, mLst, mList, asB_b, allS_leaf, wipe_n, wipe_c, wset_z, wset_s, tYesM, oAsg, gPut, gTp, gsCons, gsNil, mSeq, seq_l, seq_t, bind_leaf, bind_fail, lineOk_1, lineOk_2, lineOk_3, mPeek_z, mPeek_s, mVar_z, mVar_s, put_z, put_s, opAdd_i, opSub_i, opNeg_i, cLt_i, cLe_i, cGt_i, cGe_i, cEq_i, cNe_i, fAbs_i, fInt_i, fLen_t, fLen_l, ix0, ix1, Bool.false_eq_true, Bool.not_true, Bool.not_false, List.length_cons, List.length_nil, List.map_cons, List.map_nil, List.cons_append, List.nil_append, List.replicate, Nat.reduceAdd, Nat.reduceSub, Nat.zero_add, if_true, if_false, ↓reduceIte, k]
      rfl
  have c2 : mLc (mSeq (mPeek 0)) [1] (gPut 1) tYesM (mAndV (mA f_is_fraction_of (aCons (mVar 1) aNil)) (mB (mC cGe (m2 opIx (mPeek 1) (fun _ => .leaf (.int 0))) (fun _ => .leaf (.int 0))))) [some ⟨false, .tup xs⟩, none] = .leaf (xs.map fun x => .bl (isFrB x && nnD x)) := by
    refine mLc_at (L := xs) (dx := id) (f := fun x => .bl (isFrB x && nnD x)) (by walk_at "ev"; rw [List.map_id]) (by omega) fun x hh => ⟨[some ⟨false, .tup xs⟩, some ⟨false, x⟩], by walk_at "ev"; rfl, rfl, ?_⟩
    have k := (frac_eq (hx x hh)).1
    cases e : isFrB x
    · rw [e] at k
      generalize f_is_fraction_of = ff at *
      simp only [mDef, En.start, oSeq, oIf, oRet, oSet, oOwn, putOwn_z, putOwn_s, oPar, oNx, oFail, oEx, _root_.R.m2, _root_.R.m1, _root_.R.mA, aCons, aNil, _root_.R.mB, _root_.R.mC, mCh, _root_.R.mT, mNot, mAnd, mOr, mAndV, mOrV, mNotV, mIf, mTup, mLst, mList, asB_b, allS_leaf, wipe_n, wipe_c, wset_z, wset_s, tYesM, oAsg, gPut, gTp, gsCons, gsNil, mSeq, seq_l, seq_t, bind_leaf, bind_fail, lineOk_1, lineOk_2, lineOk_3, mPeek_z, mPeek_s, mVar_z, mVar_s, put_z, put_s, opAdd_i, opSub_i, opNeg_i, cLt_i, cLe_i, cGt_i, cGe_i, cEq_i, cNe_i, fAbs_i, fInt_i, fLen_t, fLen_l, ix0, ix1, Bool.false_eq_true, Bool.not_true, Bool.not_false, List.length_cons, List.length_nil, List.map_cons, List.map_nil, List.cons_append, List.nil_append, List.replicate, Nat.reduceAdd, Nat.reduceSub, Nat.zero_add, if_true, if_false, ↓reduceIte, k]
      rfl
    · obtain ⟨q, rfl, _⟩ := isFr_q (hx x hh) e
      rw [e] at k
      rw [nn_fr]
      unfold fr at *
      generalize f_is_fraction_of = ff at *
      generalize (q.den : Int) = qd at *
      generalize q.num = qn at *
      simp only [mDef, En.start, oSeq, oIf, oRet, oSet, oOwn, putOwn_z, putOwn_s, oPar, oNx, oFail, oEx, _root_.R.m2, _root_.R.m1, _root_.R.mA, aCons, aNil, _root_.R.mB, _root_.R.mC, mCh, _root_.R.mT, mNot, mAnd, mOr, mAndV, mOrV, mNotV, mIf, mTup, mLst, mList, asB_b, allS_leaf, wipe_n, wipe_c, wset_z, wset_s, tYesM, oAsg, gPut, gTp, gsCons, gsNil, mSeq, seq_l, seq_t, bind_leaf, bind_fail, lineOk_1, lineOk_2, lineOk_3, mPeek_z, mPeek_s, mVar_z, mVar_s, put_z, put_s, opAdd_i, opSub_i, opNeg_i, cLt_i, cLe_i, cGt_i, cGe_i, cEq_i, cNe_i, fAbs_i, fInt_i, fLen_t, fLen_l, ix0, ix1, Bool.false_eq_true, Bool.not_true, Bool.not_false, List.length_cons, List.length_nil, List.map_cons, List.map_nil, List.cons_append, List.nil_append, List.replicate, Nat.reduceAdd, Nat.reduceSub, Nat.zero_add, if_true, if_false, ↓reduceIte, k]
      rfl
  have a2 := all_bl (fun x => isFrB x && nnD x) xs
  have i1 : (1 : Int) ≤ xs.length := by omega
  have i2 : (xs.length : Int) ≤ 8 := by omega
  have eB : isLotB (.tup xs) = ((xs.all fun x => isFrB x && nnD x) && decide ((xs.map qOf).sum = 1)) := by
    show (decide (1 ≤ xs.length) && (decide (xs.length ≤ 8) && ((xs.all fun x => isFrB x && nnD x) && decide ((xs.map qOf).sum = 1)))) = _
    rw [decide_eq_true l1, decide_eq_true l8]
    rfl
  rw [eB]
  by_cases ha : (xs.all fun x => isFrB x && nnD x) = true
  · have hf : xs.all isFrB = true := List.all_eq_true.mpr fun x hh => by
      have := List.all_eq_true.mp ha x hh
      rw [Bool.and_eq_true] at this
      exact this.1
    obtain ⟨Q, rfl, hQ⟩ := lots_q xs h hf
    rw [List.length_map] at l8
    have t1 := total_t Q hQ (by omega) (by omega)
    have t2 := law_sum_t Q hQ (by omega) (by omega)
    have t3 := cEq_fr Q.sum 1
    rw [fr_one] at t3
    rw [ha] at a2
    rw [ha, qOf_map]
    refine ⟨?_, ?_⟩
    · clear c1 t2 h hx ha eB el hf
      unfold f_is_lot_of b_is_lot_of
      generalize ((Q.map fr).map fun x => D.bl (isFrB x && nnD x)) = z at *
      generalize ((Q.map fr).length : Int) = m at *
      generalize D.tup (Q.map fr) = d at *
      generalize fr Q.sum = s at *
      generalize f_total = f1 at *
      generalize fAll = f2 at *
      generalize fIsi = f3 at *
      generalize fLen = f4 at *
      generalize cEq = f5 at *
      generalize mLc = ml at *
      simp only [mDef, En.start, oSeq, oIf, oRet, oSet, oOwn, putOwn_z, putOwn_s, oPar, oNx, oFail, oEx, _root_.R.m2, _root_.R.m1, _root_.R.mA, aCons, aNil, _root_.R.mB, _root_.R.mC, mCh, _root_.R.mT, mNot, mAnd, mOr, mAndV, mOrV, mNotV, mIf, mTup, mLst, mList, asB_b, allS_leaf, wipe_n, wipe_c, wset_z, wset_s, tYesM, oAsg, gPut, gTp, gsCons, gsNil, mSeq, seq_l, seq_t, bind_leaf, bind_fail, lineOk_1, lineOk_2, lineOk_3, mPeek_z, mPeek_s, mVar_z, mVar_s, put_z, put_s, opAdd_i, opSub_i, opNeg_i, cLt_i, cLe_i, cGt_i, cGe_i, cEq_i, cNe_i, fAbs_i, fInt_i, fLen_t, fLen_l, ix0, ix1, Bool.false_eq_true, Bool.not_true, Bool.not_false, List.length_cons, List.length_nil, List.map_cons, List.map_nil, List.cons_append, List.nil_append, List.replicate, Nat.reduceAdd, Nat.reduceSub, Nat.zero_add, if_true, if_false, ↓reduceIte, k1, k2, decide_eq_true i1, decide_eq_true i2, c2, a2, t1, t3]
      rfl
    · clear c2 t1 h hx ha eB el hf
      unfold f_law_is_lot b_law_is_lot
      generalize ((Q.map fr).map fun x => D.bl (isFrB x && nnD x)) = z at *
      generalize ((Q.map fr).length : Int) = m at *
      generalize D.tup (Q.map fr) = d at *
      generalize fr Q.sum = s at *
      generalize f_law_sum = f1 at *
      generalize fAll = f2 at *
      generalize fIsi = f3 at *
      generalize fLen = f4 at *
      generalize cEq = f5 at *
      generalize mLc = ml at *
      simp only [mDef, En.start, oSeq, oIf, oRet, oSet, oOwn, putOwn_z, putOwn_s, oPar, oNx, oFail, oEx, _root_.R.m2, _root_.R.m1, _root_.R.mA, aCons, aNil, _root_.R.mB, _root_.R.mC, mCh, _root_.R.mT, mNot, mAnd, mOr, mAndV, mOrV, mNotV, mIf, mTup, mLst, mList, asB_b, allS_leaf, wipe_n, wipe_c, wset_z, wset_s, tYesM, oAsg, gPut, gTp, gsCons, gsNil, mSeq, seq_l, seq_t, bind_leaf, bind_fail, lineOk_1, lineOk_2, lineOk_3, mPeek_z, mPeek_s, mVar_z, mVar_s, put_z, put_s, opAdd_i, opSub_i, opNeg_i, cLt_i, cLe_i, cGt_i, cGe_i, cEq_i, cNe_i, fAbs_i, fInt_i, fLen_t, fLen_l, ix0, ix1, Bool.false_eq_true, Bool.not_true, Bool.not_false, List.length_cons, List.length_nil, List.map_cons, List.map_nil, List.cons_append, List.nil_append, List.replicate, Nat.reduceAdd, Nat.reduceSub, Nat.zero_add, if_true, if_false, ↓reduceIte, k1, k2, decide_eq_true i1, decide_eq_true i2, c1, a2, t2, t3]
      rfl
  · rw [Bool.eq_false_iff.mpr ha] at a2 ⊢
    rw [Bool.false_and]
    refine ⟨?_, ?_⟩
    · clear c1 h hx ha eB el
      unfold f_is_lot_of b_is_lot_of
      generalize (xs.map fun x => D.bl (isFrB x && nnD x)) = z at *
      generalize (xs.length : Int) = m at *
      generalize D.tup xs = d at *
      generalize fAll = f2 at *
      generalize fIsi = f3 at *
      generalize fLen = f4 at *
      generalize mLc = ml at *
      simp only [mDef, En.start, oSeq, oIf, oRet, oSet, oOwn, putOwn_z, putOwn_s, oPar, oNx, oFail, oEx, _root_.R.m2, _root_.R.m1, _root_.R.mA, aCons, aNil, _root_.R.mB, _root_.R.mC, mCh, _root_.R.mT, mNot, mAnd, mOr, mAndV, mOrV, mNotV, mIf, mTup, mLst, mList, asB_b, allS_leaf, wipe_n, wipe_c, wset_z, wset_s, tYesM, oAsg, gPut, gTp, gsCons, gsNil, mSeq, seq_l, seq_t, bind_leaf, bind_fail, lineOk_1, lineOk_2, lineOk_3, mPeek_z, mPeek_s, mVar_z, mVar_s, put_z, put_s, opAdd_i, opSub_i, opNeg_i, cLt_i, cLe_i, cGt_i, cGe_i, cEq_i, cNe_i, fAbs_i, fInt_i, fLen_t, fLen_l, ix0, ix1, Bool.false_eq_true, Bool.not_true, Bool.not_false, List.length_cons, List.length_nil, List.map_cons, List.map_nil, List.cons_append, List.nil_append, List.replicate, Nat.reduceAdd, Nat.reduceSub, Nat.zero_add, if_true, if_false, ↓reduceIte, k1, k2, decide_eq_true i1, decide_eq_true i2, c2, a2]
    · clear c2 h hx ha eB el
      unfold f_law_is_lot b_law_is_lot
      generalize (xs.map fun x => D.bl (isFrB x && nnD x)) = z at *
      generalize (xs.length : Int) = m at *
      generalize D.tup xs = d at *
      generalize fAll = f2 at *
      generalize fIsi = f3 at *
      generalize fLen = f4 at *
      generalize mLc = ml at *
      simp only [mDef, En.start, oSeq, oIf, oRet, oSet, oOwn, putOwn_z, putOwn_s, oPar, oNx, oFail, oEx, _root_.R.m2, _root_.R.m1, _root_.R.mA, aCons, aNil, _root_.R.mB, _root_.R.mC, mCh, _root_.R.mT, mNot, mAnd, mOr, mAndV, mOrV, mNotV, mIf, mTup, mLst, mList, asB_b, allS_leaf, wipe_n, wipe_c, wset_z, wset_s, tYesM, oAsg, gPut, gTp, gsCons, gsNil, mSeq, seq_l, seq_t, bind_leaf, bind_fail, lineOk_1, lineOk_2, lineOk_3, mPeek_z, mPeek_s, mVar_z, mVar_s, put_z, put_s, opAdd_i, opSub_i, opNeg_i, cLt_i, cLe_i, cGt_i, cGe_i, cEq_i, cNe_i, fAbs_i, fInt_i, fLen_t, fLen_l, ix0, ix1, Bool.false_eq_true, Bool.not_true, Bool.not_false, List.length_cons, List.length_nil, List.map_cons, List.map_nil, List.cons_append, List.nil_append, List.replicate, Nat.reduceAdd, Nat.reduceSub, Nat.zero_add, if_true, if_false, ↓reduceIte, k1, k2, decide_eq_true i1, decide_eq_true i2, c1, a2]
theorem lot_out {xs : List D} (hl : ¬ (1 ≤ xs.length ∧ xs.length ≤ 8)) : f_is_lot_of [.tup xs] = .leaf (.bl (isLotB (.tup xs))) ∧ f_law_is_lot [.tup xs, .int 8] = .leaf (.bl (isLotB (.tup xs))) := by
  have k1 : fIsi [.tup xs, .ty "tuple"] = .leaf (.bl true) := rfl
  have k2 := fLen_t xs
  have hh : (¬ (1 : Int) ≤ xs.length) ∨ ((1 : Int) ≤ xs.length ∧ ¬ (xs.length : Int) ≤ 8) := by omega
  have eB : isLotB (.tup xs) = false := by
    show (decide (1 ≤ xs.length) && (decide (xs.length ≤ 8) && ((xs.all fun x => isFrB x && nnD x) && decide ((xs.map qOf).sum = 1)))) = _
    by_cases h1 : 1 ≤ xs.length
    · rw [decide_eq_true h1, decide_eq_false (fun h8 => hl ⟨h1, h8⟩)]; rfl
    · rw [decide_eq_false h1]; rfl
  rw [eB]
  clear eB hl
  generalize (xs.length : Int) = m at *
  generalize D.tup xs = d at *
  refine ⟨?_, ?_⟩
  · unfold f_is_lot_of b_is_lot_of
    generalize fIsi = f3 at *
    generalize fLen = f4 at *
    rcases hh with h | ⟨h, h2⟩
    · simp only [mDef, En.start, oSeq, oIf, oRet, oSet, oOwn, putOwn_z, putOwn_s, oPar, oNx, oFail, oEx, _root_.R.m2, _root_.R.m1, _root_.R.mA, aCons, aNil, _root_.R.mB, _root_.R.mC, mCh, _root_.R.mT, mNot, mAnd, mOr, mAndV, mOrV, mNotV, mIf, mTup, mLst, mList, asB_b, allS_leaf, wipe_n, wipe_c, wset_z, wset_s, tYesM, oAsg, gPut, gTp, gsCons, gsNil, mSeq, seq_l, seq_t, bind_leaf, bind_fail, lineOk_1, lineOk_2, lineOk_3, mPeek_z, mPeek_s, mVar_z, mVar_s, put_z, put_s, opAdd_i, opSub_i, opNeg_i, cLt_i, cLe_i, cGt_i, cGe_i, cEq_i, cNe_i, fAbs_i, fInt_i, fLen_t, fLen_l, ix0, ix1, Bool.false_eq_true, Bool.not_true, Bool.not_false, List.length_cons, List.length_nil, List.map_cons, List.map_nil, List.cons_append, List.nil_append, List.replicate, Nat.reduceAdd, Nat.reduceSub, Nat.zero_add, if_true, if_false, ↓reduceIte, k1, k2, decide_eq_false h]
    · simp only [mDef, En.start, oSeq, oIf, oRet, oSet, oOwn, putOwn_z, putOwn_s, oPar, oNx, oFail, oEx, _root_.R.m2, _root_.R.m1, _root_.R.mA, aCons, aNil, _root_.R.mB, _root_.R.mC, mCh, _root_.R.mT, mNot, mAnd, mOr, mAndV, mOrV, mNotV, mIf, mTup, mLst, mList, asB_b, allS_leaf, wipe_n, wipe_c, wset_z, wset_s, tYesM, oAsg, gPut, gTp, gsCons, gsNil, mSeq, seq_l, seq_t, bind_leaf, bind_fail, lineOk_1, lineOk_2, lineOk_3, mPeek_z, mPeek_s, mVar_z, mVar_s, put_z, put_s, opAdd_i, opSub_i, opNeg_i, cLt_i, cLe_i, cGt_i, cGe_i, cEq_i, cNe_i, fAbs_i, fInt_i, fLen_t, fLen_l, ix0, ix1, Bool.false_eq_true, Bool.not_true, Bool.not_false, List.length_cons, List.length_nil, List.map_cons, List.map_nil, List.cons_append, List.nil_append, List.replicate, Nat.reduceAdd, Nat.reduceSub, Nat.zero_add, if_true, if_false, ↓reduceIte, k1, k2, decide_eq_true h, decide_eq_false h2]
  · unfold f_law_is_lot b_law_is_lot
    generalize fIsi = f3 at *
    generalize fLen = f4 at *
    rcases hh with h | ⟨h, h2⟩
    · simp only [mDef, En.start, oSeq, oIf, oRet, oSet, oOwn, putOwn_z, putOwn_s, oPar, oNx, oFail, oEx, _root_.R.m2, _root_.R.m1, _root_.R.mA, aCons, aNil, _root_.R.mB, _root_.R.mC, mCh, _root_.R.mT, mNot, mAnd, mOr, mAndV, mOrV, mNotV, mIf, mTup, mLst, mList, asB_b, allS_leaf, wipe_n, wipe_c, wset_z, wset_s, tYesM, oAsg, gPut, gTp, gsCons, gsNil, mSeq, seq_l, seq_t, bind_leaf, bind_fail, lineOk_1, lineOk_2, lineOk_3, mPeek_z, mPeek_s, mVar_z, mVar_s, put_z, put_s, opAdd_i, opSub_i, opNeg_i, cLt_i, cLe_i, cGt_i, cGe_i, cEq_i, cNe_i, fAbs_i, fInt_i, fLen_t, fLen_l, ix0, ix1, Bool.false_eq_true, Bool.not_true, Bool.not_false, List.length_cons, List.length_nil, List.map_cons, List.map_nil, List.cons_append, List.nil_append, List.replicate, Nat.reduceAdd, Nat.reduceSub, Nat.zero_add, if_true, if_false, ↓reduceIte, k1, k2, decide_eq_false h]
    · simp only [mDef, En.start, oSeq, oIf, oRet, oSet, oOwn, putOwn_z, putOwn_s, oPar, oNx, oFail, oEx, _root_.R.m2, _root_.R.m1, _root_.R.mA, aCons, aNil, _root_.R.mB, _root_.R.mC, mCh, _root_.R.mT, mNot, mAnd, mOr, mAndV, mOrV, mNotV, mIf, mTup, mLst, mList, asB_b, allS_leaf, wipe_n, wipe_c, wset_z, wset_s, tYesM, oAsg, gPut, gTp, gsCons, gsNil, mSeq, seq_l, seq_t, bind_leaf, bind_fail, lineOk_1, lineOk_2, lineOk_3, mPeek_z, mPeek_s, mVar_z, mVar_s, put_z, put_s, opAdd_i, opSub_i, opNeg_i, cLt_i, cLe_i, cGt_i, cGe_i, cEq_i, cNe_i, fAbs_i, fInt_i, fLen_t, fLen_l, ix0, ix1, Bool.false_eq_true, Bool.not_true, Bool.not_false, List.length_cons, List.length_nil, List.map_cons, List.map_nil, List.cons_append, List.nil_append, List.replicate, Nat.reduceAdd, Nat.reduceSub, Nat.zero_add, if_true, if_false, ↓reduceIte, k1, k2, decide_eq_true h, decide_eq_false h2]
theorem lot_eq {n : Nat} {d : D} (h : numD (n + 3) d = true) : f_is_lot_of [d] = .leaf (.bl (isLotB d)) ∧ f_law_is_lot [d, .int 8] = .leaf (.bl (isLotB d)) := by
  rcases nt_num h with ⟨xs, rfl⟩ | ⟨h1, h2⟩
  · have hx : xs.all (numD (n + 2)) = true := by simpa [numD] using h
    by_cases hl : 1 ≤ xs.length ∧ xs.length ≤ 8
    · exact lot_in hx hl.1 hl.2
    · exact lot_out hl
  · obtain ⟨_, _, a, b⟩ := nt1 (m := .int 8) h1
    have e : isLotB d = false := by
      cases d with
      | tup xs => cases h1
      | _ => rfl
    rw [e]
    exact ⟨a, b⟩
/-- what a judged lot is -/
theorem lot_is {n : Nat} {d : D} (h : numD (n + 3) d = true) (hb : isLotB d = true) : ∃ Q : List Rat, d = lotD Q ∧ 1 ≤ Q.length ∧ Q.length ≤ 8 ∧ (∀ q ∈ Q, Sz 20 q ∧ 0 ≤ q) ∧ Q.sum = 1 := by
  cases d with
  | tup xs =>
    have hx : xs.all (numD (n + 2)) = true := by simpa [numD] using h
    have hb : (decide (1 ≤ xs.length) && (decide (xs.length ≤ 8) && ((xs.all fun x => isFrB x && nnD x) && decide ((xs.map qOf).sum = 1)))) = true := hb
    simp only [Bool.and_eq_true, decide_eq_true_eq] at hb
    obtain ⟨l1, l8, ha, hs⟩ := hb
    have hf : xs.all isFrB = true := List.all_eq_true.mpr fun x hh => by
      have := List.all_eq_true.mp ha x hh
      rw [Bool.and_eq_true] at this
      exact this.1
    obtain ⟨Q, rfl, hQ⟩ := lots_q xs hx hf
    rw [List.length_map] at l1 l8
    rw [qOf_map] at hs
    refine ⟨Q, rfl, l1, l8, fun q hq => ⟨hQ q hq, ?_⟩, hs⟩
    have := List.all_eq_true.mp ha (fr q) (List.mem_map_of_mem hq)
    rw [Bool.and_eq_true, nn_fr, decide_eq_true_eq] at this
    exact Rat.num_nonneg.mp this.2
  | _ => cases hb
end Law

set_option maxRecDepth 100000
set_option linter.all false
namespace Law
open R PySem L2
local macro_rules | `(tactic| walk_at "ev") => `(tactic| simp only [mDef, En.start, oSeq, oIf, oRet, oSet, oOwn, putOwn_z, putOwn_s, oPar, oNx, oFail, oEx, m2, m1, mA, aCons, aNil, mB, mC, mCh, mT, mNot, mAnd, mOr, mAndV, mOrV, mNotV, mIf, mTup, mLst, mList, asB_b, allS_leaf, wipe_n, wipe_c, wset_z, wset_s, tYesM, oAsg, gPut, gTp, gsCons, gsNil, mSeq, seq_l, seq_t, bind_leaf, bind_fail, lineOk_1, lineOk_2, lineOk_3, mPeek_z, mPeek_s, mVar_z, mVar_s, put_z, put_s, opAdd_i, opSub_i, opNeg_i, cLt_i, cLe_i, cGt_i, cGe_i, cEq_i, cNe_i, fAbs_i, fInt_i, fLen_t, fLen_l, ix0, ix1, Bool.false_eq_true, Bool.not_true, Bool.not_false,
  List.length_cons, List.length_nil, List.map_cons, List.map_nil, List.cons_append, List.nil_append, List.replicate, Nat.reduceAdd, Nat.reduceSub, Nat.zero_add, if_true, if_false, ↓reduceIte])
theorem allS_mono {α : Type} {P Q : α → Prop} {t : Tree α} (h : AllS P t) (k : ∀ a, P a → Q a) : AllS Q t := ⟨Tree.all_mono k h.h⟩
theorem allS_fun {α β : Type} {P : α → Prop} {Q : β → Prop} {t : Tree α} {f : α → Tree β} (h : AllS P t) (k : ∀ a, P a → AllS Q (f a)) : AllS Q (t.bind f) := by
  rw [allS_bind]
  exact allS_mono h k
/-- a comprehension whose item draws -/
theorem lcS {β : Type} {P : D → Prop} {g : D → En → Tree En} {mt : En → Tree Bool} {me : En → Tree D} {E : En} {dx : β → D} : ∀ L : List β, (∀ x ∈ L, ∃ E', g (dx x) E = .leaf E' ∧ mt E' = .leaf true ∧ AllS P (me E')) →
    AllS (fun ys => ys.length = L.length ∧ ∀ y ∈ ys, P y) (lcLoop g mt me E (L.map dx))
  | [], _ => by
    show AllS _ (Tree.leaf [])
    rw [allS_leaf]
    exact ⟨rfl, fun y hy => nomatch hy⟩
  | x :: L, h => by
    obtain ⟨E', h1, h2, h3⟩ := h x List.mem_cons_self
    have ih := lcS (P := P) L fun y hy => h y (List.mem_cons_of_mem _ hy)
    rw [List.map_cons]
    unfold lcLoop
    rw [h1, bind_leaf, h2, bind_leaf, if_pos rfl]
    refine allS_fun h3 fun y hy => allS_fun ih fun ys hys => ?_
    rw [allS_leaf]
    refine ⟨by rw [List.length_cons, List.length_cons, hys.1], fun z hz => ?_⟩
    rcases List.mem_cons.mp hz with e | e
    · exact e ▸ hy
    · exact hys.2 z e
theorem mLcS {β : Type} {P : D → Prop} {mi : En → Tree (List D)} {vs : List Nat} {g : D → En → Tree En} {mt : En → Tree Bool} {me : En → Tree D} {E : En} {dx : β → D} {L : List β} (hi : mi E = .leaf (L.map dx)) (hl : L.length ≤ 100)
    (h : ∀ x ∈ L, ∃ E', g (dx x) (wipeE E vs) = .leaf E' ∧ mt E' = .leaf true ∧ AllS P (me E')) : AllS (fun ys => ys.length = L.length ∧ ∀ y ∈ ys, P y) (mLc mi vs g mt me E) := by
  unfold mLc
  rw [hi, bind_leaf, lineOk_s _ _ (by rw [List.length_map]; exact hl)]
  exact lcS L h
/-- a pick -/
theorem pickS {ds : List D} {P : D → Prop} (h0 : 0 < ds.length) (h1 : ds.length ≤ 100) (h : ∀ d ∈ ds, P d) : AllS P (f_law_pick [.pot, .lst ds]) := by
  have hd := drS ds.length (by omega) (by omega)
  have hl := fLen_l ds
  have hx : ∀ i : Int, 0 ≤ i → i < ds.length → ∃ d, d ∈ ds ∧ opIx (.lst ds) (.int i) = .leaf d := by
    intro i i0 i1
    obtain ⟨k, rfl⟩ := Int.eq_ofNat_of_zero_le i0
    have hk : k < ds.length := by omega
    refine ⟨ds[k], List.getElem_mem hk, ?_⟩
    have e : atI ds (k : Int) = some ds[k] := by
      unfold atI ixN
      rw [if_pos (by omega), if_pos (by omega)]
      simp [hk]
    show ixO _ _ _ = _
    unfold ixO
    rw [e]
  clear h0 h1
  unfold f_law_pick b_law_pick
  generalize fLen = fl at *
  generalize opIx = oi at *
  generalize (ds.length : Int) = n at *
  walk_at "ev"
  rw [hl]
  walk_at "ev"
  repeat rw [allS_bind]
  refine allS_go hd ?_
  clear hd
  intro i i0 i1
  obtain ⟨d, hd, e⟩ := hx i i0 i1
  walk_at "ev"
  rw [e]
  walk_at "ev"
  exact h d hd

/-! ### values: short at each depth -/
def leafB : D → Bool
  | .non => true
  | .bl _ => true
  | .int i => decide (i.natAbs < 2 ^ 20)
  | .str x => strB x && decide (x.cps.size ≤ 100)
  | _ => false
def bnd : List Nat → D → Bool
  | [], d => leafB d
  | n :: ls, d => match d with
    | .tup xs => decide (xs.length ≤ n) && xs.all (bnd ls)
    | .lst xs => decide (xs.length ≤ n) && xs.all (bnd ls)
    | d => leafB d
def mk (b : Bool) (xs : List D) : D := if b = true then .lst xs else .tup xs
theorem bnd_leaf {d : D} (h : leafB d = true) : ∀ ls, bnd ls d = true
  | [] => h
  | n :: ls => by cases d <;> first | exact h | cases h
theorem bnd_mk {n : Nat} {ls : List Nat} {b : Bool} {xs : List D} : bnd (n :: ls) (mk b xs) = true ↔ xs.length ≤ n ∧ ∀ x ∈ xs, bnd ls x = true := by
  have e : bnd (n :: ls) (mk b xs) = (decide (xs.length ≤ n) && xs.all (bnd ls)) := by cases b <;> rfl
  rw [e, Bool.and_eq_true, decide_eq_true_eq, List.all_eq_true]
/-- a value: a leaf, or a list or tuple -/
theorem bnd_or {ls : List Nat} {d : D} (h : bnd ls d = true) : leafB d = true ∨ ∃ n ms b xs, ls = n :: ms ∧ d = mk b xs := by
  cases ls with
  | nil => exact .inl h
  | cons n ms =>
    cases d with
    | tup xs => exact .inr ⟨n, ms, false, xs, rfl, rfl⟩
    | lst xs => exact .inr ⟨n, ms, true, xs, rfl, rfl⟩
    | _ => exact .inl h
def up (ls : List Nat) : List Nat := ls.map (· + 1) ++ [2]
theorem up_cons (n : Nat) (ls : List Nat) : up (n :: ls) = (n + 1) :: up ls := rfl
theorem up_pos : ∀ ls : List Nat, (∀ n ∈ ls, 1 ≤ n) → ∃ m ms, up ls = m :: ms ∧ 2 ≤ m
  | [], _ => ⟨2, [], rfl, Nat.le_refl 2⟩
  | n :: ls, h => ⟨n + 1, up ls, rfl, by have := h n List.mem_cons_self; omega⟩
theorem bnd_up : ∀ (ls : List Nat) (d : D), bnd ls d = true → bnd (up ls) d = true
  | [], d, h => bnd_leaf h _
  | n :: ls, d, h => by
    rcases bnd_or h with h | ⟨n', ms, b, xs, e, rfl⟩
    · exact bnd_leaf h _
    · cases e
      rw [up_cons, bnd_mk]
      obtain ⟨h1, h2⟩ := bnd_mk.mp h
      exact ⟨by omega, fun x hx => bnd_up ls x (h2 x hx)⟩
theorem bnd_mono : ∀ {ls ms : List Nat} {d : D}, (∀ i : Nat, i < ls.length → ls.getD i 0 ≤ ms.getD i 0) → ls.length ≤ ms.length → bnd ls d = true → bnd ms d = true
  | [], ms, d, _, _, h => bnd_leaf h _
  | n :: ls, [], d, _, hl, _ => by simp at hl
  | n :: ls, m :: ms, d, hm, hl, h => by
    rcases bnd_or h with h | ⟨n', ls', b, xs, e, rfl⟩
    · exact bnd_leaf h _
    · cases e
      obtain ⟨h1, h2⟩ := bnd_mk.mp h
      have h0 := hm 0 (by simp)
      refine bnd_mk.mpr ⟨Nat.le_trans h1 (by simpa using h0), fun x hx => bnd_mono (fun i hi => ?_) (by simpa using hl) (h2 x hx)⟩
      have := hm (i + 1) (by simpa using hi)
      simpa using this
theorem num_leaf {d : D} (h : leafB d = true) (k : Nat) : numD (k + 1) d = true := by
  cases d with
  | str x =>
    have h : (strB x && decide (x.cps.size ≤ 100)) = true := h
    rw [Bool.and_eq_true] at h
    exact h.1
  | int i => exact h
  | non => rfl
  | bl _ => rfl
  | _ => cases h
theorem num_bnd : ∀ {k : Nat} {ls : List Nat} {d : D}, ls.length < k → bnd ls d = true → numD k d = true
  | 0, ls, d, hk, _ => by omega
  | k + 1, ls, d, hk, h => by
    rcases bnd_or h with h | ⟨n, ms, b, xs, rfl, rfl⟩
    · exact num_leaf h k
    · obtain ⟨_, h2⟩ := bnd_mk.mp h
      have : xs.all (numD k) = true := List.all_eq_true.mpr fun x hx => num_bnd (by simp at hk; omega) (h2 x hx)
      cases b
      · exact this
      · exact this
def wB : List Nat → Nat
  | [] => 100
  | n :: ls => n * (wB ls + 1) + 100
theorem leaf_w {d : D} (h : leafB d = true) : ∀ k, wD k d ≤ 100
  | 0 => Nat.zero_le _
  | k + 1 => by
    cases d with
    | non => exact Nat.zero_le _
    | bl _ => exact Nat.zero_le _
    | int _ => exact Nat.le_refl 100
    | str x =>
      have h : (strB x && decide (x.cps.size ≤ 100)) = true := h
      rw [Bool.and_eq_true, decide_eq_true_eq] at h
      exact h.2
    | _ => cases h
theorem sum_le_w {f : D → Nat} {b : Nat} : ∀ xs : List D, (∀ x ∈ xs, f x ≤ b) → (xs.map fun x => f x + 1).sum ≤ xs.length * (b + 1)
  | [], _ => Nat.zero_le _
  | x :: xs, h => by
    have h1 := h x List.mem_cons_self
    have h2 := sum_le_w xs fun y hy => h y (List.mem_cons_of_mem _ hy)
    rw [List.map_cons, List.sum_cons, List.length_cons, Nat.succ_mul]
    omega
theorem wB_pos : ∀ ls, 100 ≤ wB ls
  | [] => Nat.le_refl _
  | _ :: _ => Nat.le_add_left _ _
theorem wB_le : ∀ {k : Nat} {ls : List Nat} {d : D}, bnd ls d = true → wD k d ≤ wB ls
  | 0, ls, d, _ => Nat.zero_le _
  | k + 1, ls, d, h => by
    rcases bnd_or h with h | ⟨n, ms, b, xs, rfl, rfl⟩
    · exact Nat.le_trans (leaf_w h _) (wB_pos ls)
    · obtain ⟨h1, h2⟩ := bnd_mk.mp h
      have e : wD (k + 1) (mk b xs) = (xs.map fun x => wD k x + 1).sum := by cases b <;> rfl
      rw [e]
      have h3 := sum_le_w (f := wD k) (b := wB ms) xs fun x hx => wB_le (h2 x hx)
      have h4 : xs.length * (wB ms + 1) ≤ n * (wB ms + 1) := Nat.mul_le_mul_right _ h1
      show _ ≤ n * (wB ms + 1) + 100
      omega
/-- the values that the law makes -/
def VL : List Nat := [8, 5, 5, 3, 2]
def Va (d : D) : Prop := bnd VL d = true
theorem Va.vd {d : D} (h : Va d) : Vd d := ⟨num_bnd (by decide) h, Nat.le_trans (wB_le h) (by decide)⟩
/-! ### bent -/
def picks : List D := [.non, .int 0, .int 1, .int (-1), .bl true, .str "1", .tup [.int 1, .int 2], .tup [.int 0, .int 1], .tup [.int 2, .int 4], .tup [.int 1, .int 0], .lst [], .tup [], .tup [.int 3, .int 2], .tup [.int (-1), .int 2]]
theorem pair_bnd {m : Nat} {ms : List Nat} (hm : 2 ≤ m) {a b : Int} (ha : leafB (.int a) = true) (hb : leafB (.int b) = true) : bnd (m :: ms) (.tup [.int a, .int b]) = true := by
  refine (bnd_mk (b := false)).mpr ⟨hm, fun x hx => ?_⟩
  simp only [List.mem_cons, List.not_mem_nil, or_false] at hx
  rcases hx with e | e
  · rw [e]; exact bnd_leaf ha _
  · rw [e]; exact bnd_leaf hb _
theorem picks_bnd {m : Nat} {ms : List Nat} (hm : 2 ≤ m) : ∀ d ∈ picks, bnd (m :: ms) d = true := by
  intro d hd
  unfold picks at hd
  simp only [List.mem_cons, List.not_mem_nil, or_false] at hd
  rcases hd with h | h | h | h | h | h | h | h | h | h | h | h | h | h <;> subst h <;>
    first
    | exact pair_bnd hm (by decide) (by decide)
    | exact (bnd_mk (b := true)).mpr ⟨Nat.zero_le _, fun x hx => nomatch hx⟩
    | exact (bnd_mk (b := false)).mpr ⟨Nat.zero_le _, fun x hx => nomatch hx⟩
    | exact bnd_leaf (by decide +kernel) _
theorem cut_lo {xs : List D} {j : Nat} (h : j < xs.length) : cutD xs none (some (j : Int)) = xs.take j := by
  unfold cutD
  rw [HT.sIx_nat, HT.sIx_none, List.drop_zero, Nat.sub_zero, Nat.min_eq_left (Nat.le_of_lt h)]
theorem cut_hi {xs : List D} {j : Nat} (h : j < xs.length) : cutD xs (some ((j : Int) + 1)) none = xs.drop (j + 1) := by
  unfold cutD
  rw [show ((j : Int) + 1) = ((j + 1 : Nat) : Int) from rfl, HT.sIx_nat, HT.sIx_none, Nat.min_eq_left h, List.take_of_length_le (by rw [List.length_drop]; omega)]
theorem cut_one {xs : List D} {j : Nat} (h : j < xs.length) : cutD xs (some (j : Int)) (some ((j : Int) + 1)) = [xs[j]] := by
  unfold cutD
  rw [show ((j : Int) + 1) = ((j + 1 : Nat) : Int) from rfl, HT.sIx_nat, HT.sIx_nat, Nat.min_eq_left h, Nat.min_eq_left (Nat.le_of_lt h), show j.succ - j = 1 by omega, List.drop_eq_getElem_cons h]
  rfl
theorem ix_mk {b : Bool} {xs : List D} {k : Nat} (hk : k < xs.length) : opIx (mk b xs) (.int (k : Int)) = .leaf xs[k] := by
  have e : atI xs (k : Int) = some xs[k] := by
    unfold atI ixN
    rw [if_pos (by omega), if_pos (by omega)]
    simp [hk]
  have h : opIx (mk b xs) (.int (k : Int)) = ixO xs k .leaf := by cases b <;> rfl
  rw [h]
  unfold ixO
  rw [e]
theorem isi_mk (b : Bool) (xs : List D) : fIsi [mk b xs, .tup [.ty "list", .ty "tuple"]] = .leaf (.bl true) := by cases b <;> rfl
theorem isl_mk (b : Bool) (xs : List D) : fIsi [mk b xs, .ty "list"] = .leaf (.bl b) := by cases b <;> rfl
theorem isi_leaf {d : D} (h : leafB d = true) : fIsi [d, .tup [.ty "list", .ty "tuple"]] = .leaf (.bl false) := by cases d <;> first | rfl | cases h
theorem len_mk (b : Bool) (xs : List D) : fLen [mk b xs] = .leaf (.int xs.length) := by cases b <;> rfl
theorem cut_mk (b : Bool) (xs : List D) (lo hi : Option Int) : opCut lo hi (mk b xs) = .leaf (mk b (cutD xs lo hi)) := by cases b <;> rfl
theorem add_mk (b : Bool) (xs ys : List D) : opAdd (mk b xs) (mk b ys) = lineOk (xs.length + ys.length) (.leaf (mk b (xs ++ ys))) := by cases b <;> exact Eq.trans rfl rfl
theorem rev_mk {b : Bool} {xs : List D} {m : En → Tree D} {E : En} (h : m E = .leaf (mk b xs)) : mRevA m E = .leaf (mk b xs.reverse) := by
  unfold mRevA
  rw [h]
  cases b <;> rfl
theorem seq_mk (b : Bool) (xs : List D) : seqOf (mk b xs) = .leaf xs := by cases b <;> exact Eq.trans rfl rfl
theorem bentF {fr : List D → Tree D} {ls : List Nat} (hl : ∀ n ∈ ls, 1 ≤ n ∧ n ≤ 8) {d : D} (h : bnd ls d = true) (ih : ∀ n ms, ls = n :: ms → ∀ x, bnd ms x = true → AllS (fun y => bnd (up ms) y = true) (fr [.pot, x])) :
    AllS (fun y => bnd (up ls) y = true) (mDef 2 5 (b_law_bent fr) [.pot, d]) := by
  obtain ⟨m, ms, hu, hm⟩ := up_pos ls fun n hn => (hl n hn).1
  have pk : AllS (fun y => bnd (up ls) y = true) (f_law_pick [.pot, .lst picks]) := by
    rw [hu]
    exact pickS (by decide) (by decide) (picks_bnd hm)
  unfold picks at pk
  rcases bnd_or h with h | ⟨n, ns, b, xs, rfl, rfl⟩
  · have k1 := isi_leaf h
    clear hu hm h ih
    unfold b_law_bent
    generalize f_law_pick = f1 at *
    generalize fIsi = f2 at *
    simp only [mDef, En.start, oSeq, oIf, oRet, oSet, oOwn, putOwn_z, putOwn_s, oPar, oNx, oFail, oEx, _root_.R.m2, _root_.R.m1, _root_.R.mA, aCons, aNil, _root_.R.mB, _root_.R.mC, mCh, _root_.R.mT, mNot, mAnd, mOr, mAndV, mOrV, mNotV, mIf, mTup, mLst, mList, asB_b, allS_leaf, wipe_n, wipe_c, wset_z, wset_s, tYesM, oAsg, gPut, gTp, gsCons, gsNil, mSeq, seq_l, seq_t, bind_leaf, bind_fail, lineOk_1, lineOk_2, lineOk_3, mPeek_z, mPeek_s, mVar_z, mVar_s, put_z, put_s, opAdd_i, opSub_i, opNeg_i, cLt_i, cLe_i, cGt_i, cGe_i, cEq_i, cNe_i, fAbs_i, fInt_i, fLen_t, fLen_l, ix0, ix1, Bool.false_eq_true, Bool.not_true, Bool.not_false, List.length_cons, List.length_nil, List.map_cons, List.map_nil, List.cons_append, List.nil_append, List.replicate, Nat.reduceAdd, Nat.reduceSub, Nat.zero_add, if_true, if_false, ↓reduceIte, k1, lineOk_s, Nat.reduceLeDiff]
    repeat rw [allS_bind]
    refine allS_mono pk fun y hy => ?_
    simp only [mDef, En.start, oSeq, oIf, oRet, oSet, oOwn, putOwn_z, putOwn_s, oPar, oNx, oFail, oEx, _root_.R.m2, _root_.R.m1, _root_.R.mA, aCons, aNil, _root_.R.mB, _root_.R.mC, mCh, _root_.R.mT, mNot, mAnd, mOr, mAndV, mOrV, mNotV, mIf, mTup, mLst, mList, asB_b, allS_leaf, wipe_n, wipe_c, wset_z, wset_s, tYesM, oAsg, gPut, gTp, gsCons, gsNil, mSeq, seq_l, seq_t, bind_leaf, bind_fail, lineOk_1, lineOk_2, lineOk_3, mPeek_z, mPeek_s, mVar_z, mVar_s, put_z, put_s, opAdd_i, opSub_i, opNeg_i, cLt_i, cLe_i, cGt_i, cGe_i, cEq_i, cNe_i, fAbs_i, fInt_i, fLen_t, fLen_l, ix0, ix1, Bool.false_eq_true, Bool.not_true, Bool.not_false, List.length_cons, List.length_nil, List.map_cons, List.map_nil, List.cons_append, List.nil_append, List.replicate, Nat.reduceAdd, Nat.reduceSub, Nat.zero_add, if_true, if_false, ↓reduceIte]
    exact hy
  · have k1 := isi_mk b xs
    have k2 := isl_mk b xs
    have k3 := len_mk b xs
    by_cases h0 : xs = []
    · subst h0
      clear hu hm h ih
      have k3 : fLen [mk b []] = .leaf (.int 0) := k3
      have k4 : cEq (.int 0) (.int 0) = .leaf true := rfl
      unfold b_law_bent
      generalize f_law_pick = f1 at *
      generalize fIsi = f2 at *
      generalize fLen = f3 at *
      generalize mk b [] = v at *
      generalize cEq = ce at *
      simp only [mDef, En.start, oSeq, oIf, oRet, oSet, oOwn, putOwn_z, putOwn_s, oPar, oNx, oFail, oEx, _root_.R.m2, _root_.R.m1, _root_.R.mA, aCons, aNil, _root_.R.mB, _root_.R.mC, mCh, _root_.R.mT, mNot, mAnd, mOr, mAndV, mOrV, mNotV, mIf, mTup, mLst, mList, asB_b, allS_leaf, wipe_n, wipe_c, wset_z, wset_s, tYesM, oAsg, gPut, gTp, gsCons, gsNil, mSeq, seq_l, seq_t, bind_leaf, bind_fail, lineOk_1, lineOk_2, lineOk_3, mPeek_z, mPeek_s, mVar_z, mVar_s, put_z, put_s, opAdd_i, opSub_i, opNeg_i, cLt_i, cLe_i, cGt_i, cGe_i, cEq_i, cNe_i, fAbs_i, fInt_i, fLen_t, fLen_l, ix0, ix1, Bool.false_eq_true, Bool.not_true, Bool.not_false, List.length_cons, List.length_nil, List.map_cons, List.map_nil, List.cons_append, List.nil_append, List.replicate, Nat.reduceAdd, Nat.reduceSub, Nat.zero_add, if_true, if_false, ↓reduceIte, k1, k3, k4, lineOk_s, Nat.reduceLeDiff]
      repeat rw [allS_bind]
      refine allS_mono pk fun y hy => ?_
      simp only [mDef, En.start, oSeq, oIf, oRet, oSet, oOwn, putOwn_z, putOwn_s, oPar, oNx, oFail, oEx, _root_.R.m2, _root_.R.m1, _root_.R.mA, aCons, aNil, _root_.R.mB, _root_.R.mC, mCh, _root_.R.mT, mNot, mAnd, mOr, mAndV, mOrV, mNotV, mIf, mTup, mLst, mList, asB_b, allS_leaf, wipe_n, wipe_c, wset_z, wset_s, tYesM, oAsg, gPut, gTp, gsCons, gsNil, mSeq, seq_l, seq_t, bind_leaf, bind_fail, lineOk_1, lineOk_2, lineOk_3, mPeek_z, mPeek_s, mVar_z, mVar_s, put_z, put_s, opAdd_i, opSub_i, opNeg_i, cLt_i, cLe_i, cGt_i, cGe_i, cEq_i, cNe_i, fAbs_i, fInt_i, fLen_t, fLen_l, ix0, ix1, Bool.false_eq_true, Bool.not_true, Bool.not_false, List.length_cons, List.length_nil, List.map_cons, List.map_nil, List.cons_append, List.nil_append, List.replicate, Nat.reduceAdd, Nat.reduceSub, Nat.zero_add, if_true, if_false, ↓reduceIte]
      exact hy
    · have hlen : 0 < xs.length := List.length_pos_iff.mpr h0
      obtain ⟨g1, g2⟩ := bnd_mk.mp h
      obtain ⟨n1, n8⟩ := hl n List.mem_cons_self
      have d7 := drS 7 (by decide) (by decide)
      have d8 := drS 8 (by decide) (by decide)
      have dl := drS (xs.length : Int) (by omega) (by omega)
      have ih := ih n ns rfl
      have k5 : (((xs.length : Int)) == 0) = false := beq_eq_false_iff_ne.mpr (by omega)
      have one : ∀ y : D, (if b = true then Tree.leaf (D.lst [y]) else Tree.leaf (D.tup [y])) = Tree.leaf (mk b [y]) := fun y => by cases b <;> rfl
      have upn : ∀ zs : List D, zs.length ≤ n + 1 → (∀ z ∈ zs, bnd (up ns) z = true) → bnd (up (n :: ns)) (mk b zs) = true := fun zs h1 h2 => by
        rw [up_cons]
        exact bnd_mk.mpr ⟨h1, h2⟩
      have upx : ∀ x ∈ xs, bnd (up ns) x = true := fun x hx => bnd_up ns x (g2 x hx)
      have rv : ∀ (a c d e : Option Slot), mRevA (mPeek 1) [a, some ⟨false, mk b xs⟩, c, d, e] = .leaf (mk b xs.reverse) := fun a c d e => rev_mk (by rfl)
      have ct := cut_mk b xs
      unfold b_law_bent
      generalize f_law_pick = f1 at *
      generalize f_law_draw = f2 at *
      generalize fIsi = f3 at *
      generalize fLen = f4 at *
      generalize hv : mk b xs = v at *
      generalize mRevA = mr at *
      simp only [mDef, En.start, oSeq, oIf, oRet, oSet, oOwn, putOwn_z, putOwn_s, oPar, oNx, oFail, oEx, _root_.R.m2, _root_.R.m1, _root_.R.mA, aCons, aNil, _root_.R.mB, _root_.R.mC, mCh, _root_.R.mT, mNot, mAnd, mOr, mAndV, mOrV, mNotV, mIf, mTup, mLst, mList, asB_b, allS_leaf, wipe_n, wipe_c, wset_z, wset_s, tYesM, oAsg, gPut, gTp, gsCons, gsNil, mSeq, seq_l, seq_t, bind_leaf, bind_fail, lineOk_1, lineOk_2, lineOk_3, mPeek_z, mPeek_s, mVar_z, mVar_s, put_z, put_s, opAdd_i, opSub_i, opNeg_i, cLt_i, cLe_i, cGt_i, cGe_i, cEq_i, cNe_i, fAbs_i, fInt_i, fLen_t, fLen_l, ix0, ix1, Bool.false_eq_true, Bool.not_true, Bool.not_false, List.length_cons, List.length_nil, List.map_cons, List.map_nil, List.cons_append, List.nil_append, List.replicate, Nat.reduceAdd, Nat.reduceSub, Nat.zero_add, if_true, if_false, ↓reduceIte, k1, k3, k5]
      repeat rw [allS_bind]
      refine allS_go d7 fun i i0 i7 => ?_
      simp only [mDef, En.start, oSeq, oIf, oRet, oSet, oOwn, putOwn_z, putOwn_s, oPar, oNx, oFail, oEx, _root_.R.m2, _root_.R.m1, _root_.R.mA, aCons, aNil, _root_.R.mB, _root_.R.mC, mCh, _root_.R.mT, mNot, mAnd, mOr, mAndV, mOrV, mNotV, mIf, mTup, mLst, mList, asB_b, allS_leaf, wipe_n, wipe_c, wset_z, wset_s, tYesM, oAsg, gPut, gTp, gsCons, gsNil, mSeq, seq_l, seq_t, bind_leaf, bind_fail, lineOk_1, lineOk_2, lineOk_3, mPeek_z, mPeek_s, mVar_z, mVar_s, put_z, put_s, opAdd_i, opSub_i, opNeg_i, cLt_i, cLe_i, cGt_i, cGe_i, cEq_i, cNe_i, fAbs_i, fInt_i, fLen_t, fLen_l, ix0, ix1, Bool.false_eq_true, Bool.not_true, Bool.not_false, List.length_cons, List.length_nil, List.map_cons, List.map_nil, List.cons_append, List.nil_append, List.replicate, Nat.reduceAdd, Nat.reduceSub, Nat.zero_add, if_true, if_false, ↓reduceIte]
      cases ei : (i == 0)
      · simp only [mDef, En.start, oSeq, oIf, oRet, oSet, oOwn, putOwn_z, putOwn_s, oPar, oNx, oFail, oEx, _root_.R.m2, _root_.R.m1, _root_.R.mA, aCons, aNil, _root_.R.mB, _root_.R.mC, mCh, _root_.R.mT, mNot, mAnd, mOr, mAndV, mOrV, mNotV, mIf, mTup, mLst, mList, asB_b, allS_leaf, wipe_n, wipe_c, wset_z, wset_s, tYesM, oAsg, gPut, gTp, gsCons, gsNil, mSeq, seq_l, seq_t, bind_leaf, bind_fail, lineOk_1, lineOk_2, lineOk_3, mPeek_z, mPeek_s, mVar_z, mVar_s, put_z, put_s, opAdd_i, opSub_i, opNeg_i, cLt_i, cLe_i, cGt_i, cGe_i, cEq_i, cNe_i, fAbs_i, fInt_i, fLen_t, fLen_l, ix0, ix1, Bool.false_eq_true, Bool.not_true, Bool.not_false, List.length_cons, List.length_nil, List.map_cons, List.map_nil, List.cons_append, List.nil_append, List.replicate, Nat.reduceAdd, Nat.reduceSub, Nat.zero_add, if_true, if_false, ↓reduceIte]
        repeat rw [allS_bind]
        simp only [mDef, En.start, oSeq, oIf, oRet, oSet, oOwn, putOwn_z, putOwn_s, oPar, oNx, oFail, oEx, _root_.R.m2, _root_.R.m1, _root_.R.mA, aCons, aNil, _root_.R.mB, _root_.R.mC, mCh, _root_.R.mT, mNot, mAnd, mOr, mAndV, mOrV, mNotV, mIf, mTup, mLst, mList, asB_b, allS_leaf, wipe_n, wipe_c, wset_z, wset_s, tYesM, oAsg, gPut, gTp, gsCons, gsNil, mSeq, seq_l, seq_t, bind_leaf, bind_fail, lineOk_1, lineOk_2, lineOk_3, mPeek_z, mPeek_s, mVar_z, mVar_s, put_z, put_s, opAdd_i, opSub_i, opNeg_i, cLt_i, cLe_i, cGt_i, cGe_i, cEq_i, cNe_i, fAbs_i, fInt_i, fLen_t, fLen_l, ix0, ix1, Bool.false_eq_true, Bool.not_true, Bool.not_false, List.length_cons, List.length_nil, List.map_cons, List.map_nil, List.cons_append, List.nil_append, List.replicate, Nat.reduceAdd, Nat.reduceSub, Nat.zero_add, if_true, if_false, ↓reduceIte, k3]
        repeat rw [allS_bind]
        refine allS_go dl fun j j0 j1 => ?_
        obtain ⟨j, rfl⟩ := Int.eq_ofNat_of_zero_le j0
        have hj : j < xs.length := by omega
        repeat rw [allS_bind]
        refine allS_go d8 fun w w0 w8 => ?_
        have c1 := cut_lo hj
        have c2 := cut_hi hj
        have c3 := cut_one hj
        have e1 := ix_mk (b := b) hj
        rw [hv] at e1
        have l1 : (xs.take j).length ≤ 8 := by rw [List.length_take]; omega
        have l2 : (xs.drop (j + 1)).length ≤ 8 := by rw [List.length_drop]; omega
        have l3 : (xs.take j).length + (xs.drop (j + 1)).length ≤ 100 := by omega
        have l4 : xs.length + [xs[j]].length ≤ 100 := by rw [List.length_singleton]; omega
        have a1 := add_mk b (xs.take j) (xs.drop (j + 1))
        have a2 := add_mk b xs [xs[j]]
        rw [lineOk_s _ _ l3] at a1
        rw [lineOk_s _ _ l4, hv] at a2
        have p1 : opAdd (.int (j : Int)) (.int 1) = .leaf (.int ((j : Int) + 1)) := opAdd_i _ _
        have b1 : ∀ y : D, opAdd (mk b (xs.take j)) (mk b [y]) = .leaf (mk b (xs.take j ++ [y])) := fun y => by
          rw [add_mk, lineOk_s _ _ (by rw [List.length_singleton]; omega)]
        have b2 : ∀ y : D, opAdd (mk b (xs.take j ++ [y])) (mk b (xs.drop (j + 1))) = .leaf (mk b (xs.take j ++ [y] ++ xs.drop (j + 1))) := fun y => by
          rw [add_mk, lineOk_s _ _ (by rw [List.length_append, List.length_singleton]; omega)]
        have q1 : (xs.take j).length ≤ j := by rw [List.length_take]; omega
        have q2 : (xs.take j).length + (xs.drop (j + 1)).length + 1 ≤ xs.length := by rw [List.length_take, List.length_drop]; omega
        have m1 : ∀ z ∈ xs.take j, bnd (up ns) z = true := fun z hz => upx z (List.mem_of_mem_take hz)
        have m2 : ∀ z ∈ xs.drop (j + 1), bnd (up ns) z = true := fun z hz => upx z (List.mem_of_mem_drop hz)
        have hx := ih _ (g2 _ (List.getElem_mem hj))
        have mx := upx _ (List.getElem_mem hj)
        clear dl d7 d8 k1 k5 pk ih g2 hl hu hm
        generalize xs.take j = us at *
        generalize xs.drop (j + 1) = vs at *
        generalize xs[j] = xj at *
        generalize hJ : (j : Int) = J at *
        generalize opAdd = oa at *
        generalize opIx = oi at *
        cases e0 : (w == 0)
        · cases e2 : (w == 1)
          · cases e3 : (w == 2)
            · simp only [mDef, En.start, oSeq, oIf, oRet, oSet, oOwn, putOwn_z, putOwn_s, oPar, oNx, oFail, oEx, _root_.R.m2, _root_.R.m1, _root_.R.mA, aCons, aNil, _root_.R.mB, _root_.R.mC, mCh, _root_.R.mT, mNot, mAnd, mOr, mAndV, mOrV, mNotV, mIf, mTup, mLst, mList, asB_b, allS_leaf, wipe_n, wipe_c, wset_z, wset_s, tYesM, oAsg, gPut, gTp, gsCons, gsNil, mSeq, seq_l, seq_t, bind_leaf, bind_fail, lineOk_1, lineOk_2, lineOk_3, mPeek_z, mPeek_s, mVar_z, mVar_s, put_z, put_s, opAdd_i, opSub_i, opNeg_i, cLt_i, cLe_i, cGt_i, cGe_i, cEq_i, cNe_i, fAbs_i, fInt_i, fLen_t, fLen_l, ix0, ix1, Bool.false_eq_true, Bool.not_true, Bool.not_false, List.length_cons, List.length_nil, List.map_cons, List.map_nil, List.cons_append, List.nil_append, List.replicate, Nat.reduceAdd, Nat.reduceSub, Nat.zero_add, if_true, if_false, ↓reduceIte, e0, e2, e3, e1]
              repeat rw [allS_bind]
              refine allS_mono hx fun y hy => ?_
              simp only [mDef, En.start, oSeq, oIf, oRet, oSet, oOwn, putOwn_z, putOwn_s, oPar, oNx, oFail, oEx, _root_.R.m2, _root_.R.m1, _root_.R.mA, aCons, aNil, _root_.R.mB, _root_.R.mC, mCh, _root_.R.mT, mNot, mAnd, mOr, mAndV, mOrV, mNotV, mIf, mTup, mLst, mList, asB_b, allS_leaf, wipe_n, wipe_c, wset_z, wset_s, tYesM, oAsg, gPut, gTp, gsCons, gsNil, mSeq, seq_l, seq_t, bind_leaf, bind_fail, lineOk_1, lineOk_2, lineOk_3, mPeek_z, mPeek_s, mVar_z, mVar_s, put_z, put_s, opAdd_i, opSub_i, opNeg_i, cLt_i, cLe_i, cGt_i, cGe_i, cEq_i, cNe_i, fAbs_i, fInt_i, fLen_t, fLen_l, ix0, ix1, Bool.false_eq_true, Bool.not_true, Bool.not_false, List.length_cons, List.length_nil, List.map_cons, List.map_nil, List.cons_append, List.nil_append, List.replicate, Nat.reduceAdd, Nat.reduceSub, Nat.zero_add, if_true, if_false, ↓reduceIte, mCut, mPart, ct, c1, c2, k2, one, p1, b1, b2]
              refine upn _ (by rw [List.length_append, List.length_append, List.length_singleton]; omega) fun z hz => ?_
              rcases List.mem_append.mp hz with hz | hz
              · rcases List.mem_append.mp hz with hz | hz
                · exact m1 z hz
                · rw [List.mem_singleton.mp hz]; exact hy
              · exact m2 z hz
            · simp only [mDef, En.start, oSeq, oIf, oRet, oSet, oOwn, putOwn_z, putOwn_s, oPar, oNx, oFail, oEx, _root_.R.m2, _root_.R.m1, _root_.R.mA, aCons, aNil, _root_.R.mB, _root_.R.mC, mCh, _root_.R.mT, mNot, mAnd, mOr, mAndV, mOrV, mNotV, mIf, mTup, mLst, mList, asB_b, allS_leaf, wipe_n, wipe_c, wset_z, wset_s, tYesM, oAsg, gPut, gTp, gsCons, gsNil, mSeq, seq_l, seq_t, bind_leaf, bind_fail, lineOk_1, lineOk_2, lineOk_3, mPeek_z, mPeek_s, mVar_z, mVar_s, put_z, put_s, opAdd_i, opSub_i, opNeg_i, cLt_i, cLe_i, cGt_i, cGe_i, cEq_i, cNe_i, fAbs_i, fInt_i, fLen_t, fLen_l, ix0, ix1, Bool.false_eq_true, Bool.not_true, Bool.not_false, List.length_cons, List.length_nil, List.map_cons, List.map_nil, List.cons_append, List.nil_append, List.replicate, Nat.reduceAdd, Nat.reduceSub, Nat.zero_add, if_true, if_false, ↓reduceIte, e0, e2, e3, rv]
              exact upn _ (by rw [List.length_reverse]; omega) fun z hz => upx z (List.mem_reverse.mp hz)
          · simp only [mDef, En.start, oSeq, oIf, oRet, oSet, oOwn, putOwn_z, putOwn_s, oPar, oNx, oFail, oEx, _root_.R.m2, _root_.R.m1, _root_.R.mA, aCons, aNil, _root_.R.mB, _root_.R.mC, mCh, _root_.R.mT, mNot, mAnd, mOr, mAndV, mOrV, mNotV, mIf, mTup, mLst, mList, asB_b, allS_leaf, wipe_n, wipe_c, wset_z, wset_s, tYesM, oAsg, gPut, gTp, gsCons, gsNil, mSeq, seq_l, seq_t, bind_leaf, bind_fail, lineOk_1, lineOk_2, lineOk_3, mPeek_z, mPeek_s, mVar_z, mVar_s, put_z, put_s, opAdd_i, opSub_i, opNeg_i, cLt_i, cLe_i, cGt_i, cGe_i, cEq_i, cNe_i, fAbs_i, fInt_i, fLen_t, fLen_l, ix0, ix1, Bool.false_eq_true, Bool.not_true, Bool.not_false, List.length_cons, List.length_nil, List.map_cons, List.map_nil, List.cons_append, List.nil_append, List.replicate, Nat.reduceAdd, Nat.reduceSub, Nat.zero_add, if_true, if_false, ↓reduceIte, e0, e2, mCut, mPart, ct, c3, p1, a2]
            refine upn _ (by rw [List.length_append, List.length_singleton]; omega) fun z hz => ?_
            rcases List.mem_append.mp hz with hz | hz
            · exact upx z hz
            · rw [List.mem_singleton.mp hz]; exact mx
        · simp only [mDef, En.start, oSeq, oIf, oRet, oSet, oOwn, putOwn_z, putOwn_s, oPar, oNx, oFail, oEx, _root_.R.m2, _root_.R.m1, _root_.R.mA, aCons, aNil, _root_.R.mB, _root_.R.mC, mCh, _root_.R.mT, mNot, mAnd, mOr, mAndV, mOrV, mNotV, mIf, mTup, mLst, mList, asB_b, allS_leaf, wipe_n, wipe_c, wset_z, wset_s, tYesM, oAsg, gPut, gTp, gsCons, gsNil, mSeq, seq_l, seq_t, bind_leaf, bind_fail, lineOk_1, lineOk_2, lineOk_3, mPeek_z, mPeek_s, mVar_z, mVar_s, put_z, put_s, opAdd_i, opSub_i, opNeg_i, cLt_i, cLe_i, cGt_i, cGe_i, cEq_i, cNe_i, fAbs_i, fInt_i, fLen_t, fLen_l, ix0, ix1, Bool.false_eq_true, Bool.not_true, Bool.not_false, List.length_cons, List.length_nil, List.map_cons, List.map_nil, List.cons_append, List.nil_append, List.replicate, Nat.reduceAdd, Nat.reduceSub, Nat.zero_add, if_true, if_false, ↓reduceIte, e0, mCut, mPart, ct, c1, c2, p1, a1]
          refine upn _ (by rw [List.length_append]; omega) fun z hz => ?_
          rcases List.mem_append.mp hz with hz | hz
          · exact m1 z hz
          · exact m2 z hz
      · simp only [mDef, En.start, oSeq, oIf, oRet, oSet, oOwn, putOwn_z, putOwn_s, oPar, oNx, oFail, oEx, _root_.R.m2, _root_.R.m1, _root_.R.mA, aCons, aNil, _root_.R.mB, _root_.R.mC, mCh, _root_.R.mT, mNot, mAnd, mOr, mAndV, mOrV, mNotV, mIf, mTup, mLst, mList, asB_b, allS_leaf, wipe_n, wipe_c, wset_z, wset_s, tYesM, oAsg, gPut, gTp, gsCons, gsNil, mSeq, seq_l, seq_t, bind_leaf, bind_fail, lineOk_1, lineOk_2, lineOk_3, mPeek_z, mPeek_s, mVar_z, mVar_s, put_z, put_s, opAdd_i, opSub_i, opNeg_i, cLt_i, cLe_i, cGt_i, cGe_i, cEq_i, cNe_i, fAbs_i, fInt_i, fLen_t, fLen_l, ix0, ix1, Bool.false_eq_true, Bool.not_true, Bool.not_false, List.length_cons, List.length_nil, List.map_cons, List.map_nil, List.cons_append, List.nil_append, List.replicate, Nat.reduceAdd, Nat.reduceSub, Nat.zero_add, if_true, if_false, ↓reduceIte, ei, lineOk_s, Nat.reduceLeDiff]
        repeat rw [allS_bind]
        refine allS_mono pk fun y hy => ?_
        simp only [mDef, En.start, oSeq, oIf, oRet, oSet, oOwn, putOwn_z, putOwn_s, oPar, oNx, oFail, oEx, _root_.R.m2, _root_.R.m1, _root_.R.mA, aCons, aNil, _root_.R.mB, _root_.R.mC, mCh, _root_.R.mT, mNot, mAnd, mOr, mAndV, mOrV, mNotV, mIf, mTup, mLst, mList, asB_b, allS_leaf, wipe_n, wipe_c, wset_z, wset_s, tYesM, oAsg, gPut, gTp, gsCons, gsNil, mSeq, seq_l, seq_t, bind_leaf, bind_fail, lineOk_1, lineOk_2, lineOk_3, mPeek_z, mPeek_s, mVar_z, mVar_s, put_z, put_s, opAdd_i, opSub_i, opNeg_i, cLt_i, cLe_i, cGt_i, cGe_i, cEq_i, cNe_i, fAbs_i, fInt_i, fLen_t, fLen_l, ix0, ix1, Bool.false_eq_true, Bool.not_true, Bool.not_false, List.length_cons, List.length_nil, List.map_cons, List.map_nil, List.cons_append, List.nil_append, List.replicate, Nat.reduceAdd, Nat.reduceSub, Nat.zero_add, if_true, if_false, ↓reduceIte]
        exact hy
theorem bent0 : ∀ {x : D}, bnd [] x = true → ∀ {fr : List D → Tree D}, AllS (fun y => bnd (up []) y = true) (mDef 2 5 (b_law_bent fr) [.pot, x]) := fun h _ => bentF (ls := []) (fun n hn => nomatch hn) h fun n ms e => by cases e
/-- bent at most as deep as it is -/
theorem bent_S {ls : List Nat} (hl : ∀ n ∈ ls, 1 ≤ n ∧ n ≤ 8) (h4 : ls.length ≤ 4) {d : D} (h : bnd ls d = true) : AllS (fun y => bnd (up ls) y = true) (f_law_bent [.pot, d]) := by
  have tl : ∀ {n : Nat} {ms : List Nat}, (∀ k ∈ n :: ms, 1 ≤ k ∧ k ≤ 8) → ∀ k ∈ ms, 1 ≤ k ∧ k ≤ 8 := fun h k hk => h k (List.mem_cons_of_mem _ hk)
  have s1 : ∀ (ls : List Nat), (∀ n ∈ ls, 1 ≤ n ∧ n ≤ 8) → ls.length ≤ 0 → ∀ x, bnd ls x = true → AllS (fun y => bnd (up ls) y = true) (f_law_bent_1 [.pot, x]) := fun ls hl h0 x hx =>
    bentF hl hx fun n ms e => by subst e; simp at h0
  have s2 : ∀ (ls : List Nat), (∀ n ∈ ls, 1 ≤ n ∧ n ≤ 8) → ls.length ≤ 1 → ∀ x, bnd ls x = true → AllS (fun y => bnd (up ls) y = true) (f_law_bent_2 [.pot, x]) := fun ls hl h0 x hx =>
    bentF hl hx fun n ms e y hy => by subst e; exact s1 ms (tl hl) (by simp at h0 ⊢; omega) y hy
  have s3 : ∀ (ls : List Nat), (∀ n ∈ ls, 1 ≤ n ∧ n ≤ 8) → ls.length ≤ 2 → ∀ x, bnd ls x = true → AllS (fun y => bnd (up ls) y = true) (f_law_bent_3 [.pot, x]) := fun ls hl h0 x hx =>
    bentF hl hx fun n ms e y hy => by subst e; exact s2 ms (tl hl) (by simp at h0 ⊢; omega) y hy
  have s4 : ∀ (ls : List Nat), (∀ n ∈ ls, 1 ≤ n ∧ n ≤ 8) → ls.length ≤ 3 → ∀ x, bnd ls x = true → AllS (fun y => bnd (up ls) y = true) (f_law_bent_4 [.pot, x]) := fun ls hl h0 x hx =>
    bentF hl hx fun n ms e y hy => by subst e; exact s3 ms (tl hl) (by simp at h0 ⊢; omega) y hy
  exact bentF hl h fun n ms e y hy => by subst e; exact s4 ms (tl hl) (by simp at h4 ⊢; omega) y hy
end Law

set_option maxRecDepth 100000
set_option linter.all false
namespace Law
open R PySem L2
local macro_rules | `(tactic| walk_at "ev") => `(tactic| simp only [mDef, En.start, oSeq, oIf, oRet, oSet, oOwn, putOwn_z, putOwn_s, oPar, oNx, oFail, oEx, m2, m1, mA, aCons, aNil, mB, mC, mCh, mT, mNot, mAnd, mOr, mAndV, mOrV, mNotV, mIf, mTup, mLst, mList, asB_b, allS_leaf, wipe_n, wipe_c, wset_z, wset_s, tYesM, oAsg, gPut, gTp, gsCons, gsNil, mSeq, seq_l, seq_t, bind_leaf, bind_fail, lineOk_1, lineOk_2, lineOk_3, mPeek_z, mPeek_s, mVar_z, mVar_s, put_z, put_s, opAdd_i, opSub_i, opNeg_i, cLt_i, cLe_i, cGt_i, cGe_i, cEq_i, cNe_i, fAbs_i, fInt_i, fLen_t, fLen_l, ix0, ix1, Bool.false_eq_true, Bool.not_true, Bool.not_false,
  List.length_cons, List.length_nil, List.map_cons, List.map_nil, List.cons_append, List.nil_append, List.replicate, Nat.reduceAdd, Nat.reduceSub, Nat.zero_add, if_true, if_false, ↓reduceIte])
def iL (T : List Nat) : List D := T.map fun t : Nat => .int (t : Int)
def frT (S t : Nat) : Rat := ((t : Int) : Rat) / ((S : Int) : Rat)
theorem iL_of {b : Nat} : ∀ ys : List D, (∀ y ∈ ys, ∃ k : Nat, k ≤ b ∧ y = .int (k : Int)) → ∃ T : List Nat, ys = iL T ∧ ∀ t ∈ T, t ≤ b
  | [], _ => ⟨[], rfl, fun _ h => nomatch h⟩
  | y :: ys, h => by
    obtain ⟨k, hk, rfl⟩ := h y List.mem_cons_self
    obtain ⟨T, rfl, hT⟩ := iL_of ys fun z hz => h z (List.mem_cons_of_mem _ hz)
    exact ⟨k :: T, rfl, fun t ht => (List.mem_cons.mp ht).elim (fun e => e ▸ hk) (hT t)⟩
theorem iL_sum : ∀ T : List Nat, intsD (iL T) = some (T.map fun t : Nat => (t : Int))
  | [] => rfl
  | t :: T => by
    show (intsD (iL T)).map _ = _
    rw [iL_sum T]; rfl
theorem cast_sum : ∀ T : List Nat, (T.map fun t : Nat => (t : Int)).sum = (T.sum : Int)
  | [] => rfl
  | t :: T => by rw [List.map_cons, List.sum_cons, List.sum_cons, cast_sum T]; omega
theorem fSum_iL (T : List Nat) : fSum [.lst (iL T)] = .leaf (.int (T.sum : Int)) := by
  show withO _ _ = _
  rw [iL_sum]
  show Tree.leaf (D.int (T.map fun t : Nat => (t : Int)).sum) = _
  rw [cast_sum]
theorem sum_le3 {b : Nat} : ∀ T : List Nat, (∀ t ∈ T, t ≤ b) → T.sum ≤ T.length * b
  | [], _ => by simp
  | t :: T, h => by
    have := sum_le3 T fun z hz => h z (List.mem_cons_of_mem _ hz)
    have := h t List.mem_cons_self
    rw [List.sum_cons, List.length_cons, Nat.succ_mul]
    omega
theorem mem_le_sum : ∀ {T : List Nat} {t : Nat}, t ∈ T → t ≤ T.sum
  | a :: T, t, h => by
    rw [List.sum_cons]
    rcases List.mem_cons.mp h with e | e
    · omega
    · have := mem_le_sum e; omega
theorem tops_at {T : List Nat} (hl : T.length ≤ 8) (hp : 0 < T.sum) (hs : T.sum ≤ 1000) {p m x y : Option Slot} : mLc (mSeq (mPeek 2)) [5] (gPut 5) tYesM (mA f_law_frac (aCons (mVar 5) (aCons (mA fSum (aCons (mPeek 2) aNil)) aNil))) [p, m, some ⟨true, .lst (iL T)⟩, x, y, none] = .leaf (T.map fun t : Nat => fr (frT T.sum t)) := by
  refine mLc_at (L := T) (dx := fun t : Nat => .int (t : Int)) (by walk_at "ev"; rfl) (by omega) fun t ht => ⟨[p, m, some ⟨true, .lst (iL T)⟩, x, y, some ⟨false, .int (t : Int)⟩], by walk_at "ev", rfl, ?_⟩
  have k1 := fSum_iL T
  have k2 := law_frac_fr (t := (t : Int)) (b := (T.sum : Int)) (by omega) (by have := ba_pos; have := ba_le; omega)
  rw [show fr (((t : Int) : Rat) / ((T.sum : Int) : Rat)) = fr (frT T.sum t) from rfl] at k2
  generalize fr (frT T.sum t) = z at *
  generalize (T.sum : Int) = S at *
  generalize (t : Int) = t' at *
  generalize iL T = tt at *
  generalize fSum = fs at *
  generalize f_law_frac = ff at *
  simp only [mDef, En.start, oSeq, oIf, oRet, oSet, oOwn, putOwn_z, putOwn_s, oPar, oNx, oFail, oEx, _root_.R.m2, _root_.R.m1, _root_.R.mA, aCons, aNil, _root_.R.mB, _root_.R.mC, mCh, _root_.R.mT, mNot, mAnd, mOr, mAndV, mOrV, mNotV, mIf, mTup, mLst, mList, asB_b, allS_leaf, wipe_n, wipe_c, wset_z, wset_s, tYesM, oAsg, gPut, gTp, gsCons, gsNil, mSeq, seq_l, seq_t, bind_leaf, bind_fail, lineOk_1, lineOk_2, lineOk_3, mPeek_z, mPeek_s, mVar_z, mVar_s, put_z, put_s, opAdd_i, opSub_i, opNeg_i, cLt_i, cLe_i, cGt_i, cGe_i, cEq_i, cNe_i, fAbs_i, fInt_i, fLen_t, fLen_l, ix0, ix1, Bool.false_eq_true, Bool.not_true, Bool.not_false, List.length_cons, List.length_nil, List.map_cons, List.map_nil, List.cons_append, List.nil_append, List.replicate, Nat.reduceAdd, Nat.reduceSub, Nat.zero_add, if_true, if_false, ↓reduceIte, k1, k2]
theorem iL_set (T : List Nat) (j v : Nat) : (iL T).set j (.int (v : Int)) = iL (T.set j v) := by
  unfold iL
  rw [List.map_set]
theorem iL_len (T : List Nat) : (iL T).length = T.length := by unfold iL; rw [List.length_map]
def LotT (m : Nat) (d : D) : Prop := ∃ T : List Nat, T.length = m ∧ (∀ t ∈ T, t ≤ 7) ∧ 0 < T.sum ∧ d = lotD (T.map (frT T.sum))
theorem cast_pos {n : Int} (h : 0 < n) : (0 : Rat) < (n : Rat) := by exact_mod_cast h
theorem sh_of {q : Rat} {N : Nat} {k : Int} (hN : 0 < N) (hB : N < 10 ^ 12) (h0 : 0 ≤ q) (h1 : q ≤ 1) (e : q * ((N : Int) : Rat) = (k : Rat)) : Sh q := by
  have hp := cast_pos (show (0 : Int) < N by omega)
  have hn := cast_ne (show (N : Int) ≠ 0 by omega)
  have eq : q = (k : Rat) / ((N : Int) : Rat) := by
    generalize ((N : Int) : Rat) = n at *
    grind
  have k0 : (0 : Rat) ≤ (k : Rat) := by
    rw [← e]
    exact Rat.mul_nonneg h0 (by grind)
  have k1 : (k : Rat) ≤ ((N : Int) : Rat) := by
    rw [← e]
    have := Rat.mul_le_mul_of_nonneg_right h1 (show (0 : Rat) ≤ ((N : Int) : Rat) by grind)
    grind
  have k0' : 0 ≤ k := by exact_mod_cast k0
  have k1' : k ≤ (N : Int) := by exact_mod_cast k1
  obtain ⟨p, r, g, e1, h3, h4, h5, h6, h7, h8, _⟩ := fq_parts k (N : Int) (by omega)
  rw [fq_fr (by omega), ← eq] at e1
  unfold fr at e1
  simp only [D.tup.injEq, List.cons.injEq, D.int.injEq, and_true] at e1
  refine ⟨?_, ?_⟩
  · rw [e1.1]; omega
  · have := e1.2; omega
theorem le_sumR : ∀ {L : List Rat} {q : Rat}, (∀ q ∈ L, 0 ≤ q) → q ∈ L → q ≤ L.sum
  | a :: L, q, h, hq => by
    have hs : 0 ≤ L.sum := by
      have : ∀ L : List Rat, (∀ q ∈ L, 0 ≤ q) → 0 ≤ L.sum := fun L => by
        induction L with
        | nil => intro _; simp
        | cons a L ih =>
          intro h
          have h1 := ih fun q hq => h q (List.mem_cons_of_mem _ hq)
          have h2 := h a List.mem_cons_self
          rw [List.sum_cons]
          grind
      exact this L fun q hq => h q (List.mem_cons_of_mem _ hq)
    have h2 := h a List.mem_cons_self
    rw [List.sum_cons]
    rcases List.mem_cons.mp hq with e | e
    · subst e; grind
    · have := le_sumR (fun q hq => h q (List.mem_cons_of_mem _ hq)) e
      grind
structure LotN (B m : Nat) (L : List Rat) : Prop where
  len : L.length = m
  nn : ∀ q ∈ L, 0 ≤ q
  one : L.sum = 1
  cd : ∃ N : Nat, 0 < N ∧ N ≤ B ∧ ∀ q ∈ L, ∃ k : Int, q * ((N : Int) : Rat) = (k : Rat)
theorem LotN.toQ {B m : Nat} {L : List Rat} (h : LotN B m L) (m1 : 1 ≤ m) (m8 : m ≤ 8) (hB : B < 10 ^ 12) : LotQ L := by
  obtain ⟨N, n0, n1, hk⟩ := h.cd
  refine ⟨by rw [h.len]; exact m1, by rw [h.len]; exact m8, h.nn, h.one, fun q hq => ?_⟩
  obtain ⟨k, e⟩ := hk q hq
  have hq1 := le_sumR h.nn hq
  rw [h.one] at hq1
  exact sh_of n0 (by omega) (h.nn q hq) hq1 e
theorem sum_frT (S : Nat) (hS : 0 < S) : ∀ T : List Nat, (T.map (frT S)).sum = ((T.sum : Int) : Rat) / ((S : Int) : Rat)
  | [] => by simp; grind
  | t :: T => by
    have hn := cast_ne (show (S : Int) ≠ 0 by omega)
    rw [List.map_cons, List.sum_cons, List.sum_cons, sum_frT S hS T]
    unfold frT
    rw [show (((t + T.sum : Nat) : Int) : Rat) = ((t : Int) : Rat) + ((T.sum : Int) : Rat) by rw [← Rat.intCast_add]; congr 1]
    generalize ((S : Int) : Rat) = s at *
    grind
theorem LotT.toN {m : Nat} {d : D} (m8 : m ≤ 4) (h : LotT m d) : ∃ L, d = lotD L ∧ LotN 28 m L := by
  obtain ⟨T, h1, h2, h3, rfl⟩ := h
  have hn := cast_ne (show (T.sum : Int) ≠ 0 by omega)
  have hp := cast_pos (show (0 : Int) < T.sum by omega)
  refine ⟨_, rfl, by rw [List.length_map]; exact h1, fun q hq => ?_, ?_, T.sum, h3, by have := sum_le3 T h2; omega, fun q hq => ?_⟩
  · obtain ⟨t, _, rfl⟩ := List.mem_map.mp hq
    unfold frT
    have t0 : (0 : Rat) ≤ ((t : Int) : Rat) := by exact_mod_cast Int.natCast_nonneg t
    rw [Rat.div_def]
    exact Rat.mul_nonneg t0 ((by have := Rat.inv_pos.mpr hp; grind))
  · rw [sum_frT _ h3]
    generalize ((T.sum : Int) : Rat) = s at *
    grind
  · obtain ⟨t, _, rfl⟩ := List.mem_map.mp hq
    refine ⟨t, ?_⟩
    unfold frT
    generalize ((T.sum : Int) : Rat) = s at *
    grind

theorem store_at {mi mv : En → Tree D} {a b c d e : Option Slot} {ds : List D} {j : Nat} (hi : mi [a, b, some ⟨true, .lst ds⟩, c, d, e] = .leaf (.int (j : Int))) (hj : j < ds.length) :
    oStore 2 mi mv [a, b, some ⟨true, .lst ds⟩, c, d, e] = (mv [a, b, some ⟨true, .lst ds⟩, c, d, e]).bind fun v => .leaf (.nx [a, b, some ⟨true, .lst (ds.set j v)⟩, c, d, e]) := by
  unfold oStore
  congr 1
  funext v
  have e' : ixN ds.length (j : Int) = some j := by
    unfold ixN
    rw [if_pos (by omega), if_pos (by omega)]
    rfl
  rw [hi, bind_leaf]
  show (match ixN ds.length (j : Int) with
    | some j => (Tree.leaf (Out.nx (En.putOwn [a, b, some ⟨true, .lst ds⟩, c, d, e] 2 (.lst (ds.set j v)))) : Tree Out)
    | none => Tree.fail) = _
  rw [e']
  rfl
theorem law_lot_S {m : Nat} (m1 : 1 ≤ m) (m4 : m ≤ 4) : AllS (LotT m) (f_law_lot [.pot, .int m]) := by
  have d3 := drS 3 (by decide) (by decide)
  have d5 := drS 5 (by decide) (by decide)
  have w1 : AllS (fun ys => ys.length = (List.range m).length ∧ ∀ y ∈ ys, ∃ k : Nat, k ≤ 4 ∧ y = .int (k : Int)) (mLc (mRange1 (mPeek 1)) [4] (gPut 4) tYesM (mIf (mC cGt (mA f_law_draw (aCons (mVar 0) (aCons (fun _ => .leaf (.int 3)) aNil))) (fun _ => .leaf (.int 0))) (mA f_law_draw (aCons (mVar 0) (aCons (fun _ => .leaf (.int 5)) aNil))) (fun _ => .leaf (.int 0)))
      [some ⟨false, .pot⟩, some ⟨false, .int m⟩, none, none, none, none]) := by
    refine mLcS (L := List.range m) (dx := fun i : Nat => .int (i : Int)) (range1_at (by walk_at "ev") (by omega)) (by rw [List.length_range]; omega) fun i hi => ⟨[some ⟨false, .pot⟩, some ⟨false, .int m⟩, none, none, some ⟨false, .int (i : Int)⟩, none], by walk_at "ev", rfl, ?_⟩
    generalize f_law_draw = fd at *
    simp only [mDef, En.start, oSeq, oIf, oRet, oSet, oOwn, putOwn_z, putOwn_s, oPar, oNx, oFail, oEx, _root_.R.m2, _root_.R.m1, _root_.R.mA, aCons, aNil, _root_.R.mB, _root_.R.mC, mCh, _root_.R.mT, mNot, mAnd, mOr, mAndV, mOrV, mNotV, mIf, mTup, mLst, mList, asB_b, allS_leaf, wipe_n, wipe_c, wset_z, wset_s, tYesM, oAsg, gPut, gTp, gsCons, gsNil, mSeq, seq_l, seq_t, bind_leaf, bind_fail, lineOk_1, lineOk_2, lineOk_3, mPeek_z, mPeek_s, mVar_z, mVar_s, put_z, put_s, opAdd_i, opSub_i, opNeg_i, cLt_i, cLe_i, cGt_i, cGe_i, cEq_i, cNe_i, fAbs_i, fInt_i, fLen_t, fLen_l, ix0, ix1, Bool.false_eq_true, Bool.not_true, Bool.not_false, List.length_cons, List.length_nil, List.map_cons, List.map_nil, List.cons_append, List.nil_append, List.replicate, Nat.reduceAdd, Nat.reduceSub, Nat.zero_add, if_true, if_false, ↓reduceIte]
    repeat rw [allS_bind]
    refine allS_go d3 fun z z0 z3 => ?_
    simp only [mDef, En.start, oSeq, oIf, oRet, oSet, oOwn, putOwn_z, putOwn_s, oPar, oNx, oFail, oEx, _root_.R.m2, _root_.R.m1, _root_.R.mA, aCons, aNil, _root_.R.mB, _root_.R.mC, mCh, _root_.R.mT, mNot, mAnd, mOr, mAndV, mOrV, mNotV, mIf, mTup, mLst, mList, asB_b, allS_leaf, wipe_n, wipe_c, wset_z, wset_s, tYesM, oAsg, gPut, gTp, gsCons, gsNil, mSeq, seq_l, seq_t, bind_leaf, bind_fail, lineOk_1, lineOk_2, lineOk_3, mPeek_z, mPeek_s, mVar_z, mVar_s, put_z, put_s, opAdd_i, opSub_i, opNeg_i, cLt_i, cLe_i, cGt_i, cGe_i, cEq_i, cNe_i, fAbs_i, fInt_i, fLen_t, fLen_l, ix0, ix1, Bool.false_eq_true, Bool.not_true, Bool.not_false, List.length_cons, List.length_nil, List.map_cons, List.map_nil, List.cons_append, List.nil_append, List.replicate, Nat.reduceAdd, Nat.reduceSub, Nat.zero_add, if_true, if_false, ↓reduceIte]
    cases decide (0 < z)
    · simp only [mDef, En.start, oSeq, oIf, oRet, oSet, oOwn, putOwn_z, putOwn_s, oPar, oNx, oFail, oEx, _root_.R.m2, _root_.R.m1, _root_.R.mA, aCons, aNil, _root_.R.mB, _root_.R.mC, mCh, _root_.R.mT, mNot, mAnd, mOr, mAndV, mOrV, mNotV, mIf, mTup, mLst, mList, asB_b, allS_leaf, wipe_n, wipe_c, wset_z, wset_s, tYesM, oAsg, gPut, gTp, gsCons, gsNil, mSeq, seq_l, seq_t, bind_leaf, bind_fail, lineOk_1, lineOk_2, lineOk_3, mPeek_z, mPeek_s, mVar_z, mVar_s, put_z, put_s, opAdd_i, opSub_i, opNeg_i, cLt_i, cLe_i, cGt_i, cGe_i, cEq_i, cNe_i, fAbs_i, fInt_i, fLen_t, fLen_l, ix0, ix1, Bool.false_eq_true, Bool.not_true, Bool.not_false, List.length_cons, List.length_nil, List.map_cons, List.map_nil, List.cons_append, List.nil_append, List.replicate, Nat.reduceAdd, Nat.reduceSub, Nat.zero_add, if_true, if_false, ↓reduceIte]
      exact ⟨0, by omega, rfl⟩
    · simp only [mDef, En.start, oSeq, oIf, oRet, oSet, oOwn, putOwn_z, putOwn_s, oPar, oNx, oFail, oEx, _root_.R.m2, _root_.R.m1, _root_.R.mA, aCons, aNil, _root_.R.mB, _root_.R.mC, mCh, _root_.R.mT, mNot, mAnd, mOr, mAndV, mOrV, mNotV, mIf, mTup, mLst, mList, asB_b, allS_leaf, wipe_n, wipe_c, wset_z, wset_s, tYesM, oAsg, gPut, gTp, gsCons, gsNil, mSeq, seq_l, seq_t, bind_leaf, bind_fail, lineOk_1, lineOk_2, lineOk_3, mPeek_z, mPeek_s, mVar_z, mVar_s, put_z, put_s, opAdd_i, opSub_i, opNeg_i, cLt_i, cLe_i, cGt_i, cGe_i, cEq_i, cNe_i, fAbs_i, fInt_i, fLen_t, fLen_l, ix0, ix1, Bool.false_eq_true, Bool.not_true, Bool.not_false, List.length_cons, List.length_nil, List.map_cons, List.map_nil, List.cons_append, List.nil_append, List.replicate, Nat.reduceAdd, Nat.reduceSub, Nat.zero_add, if_true, if_false, ↓reduceIte]
      refine allS_go d5 fun y y0 y5 => ?_
      obtain ⟨y, rfl⟩ := Int.eq_ofNat_of_zero_le y0
      exact ⟨y, by omega, rfl⟩
  have dm := drS m (by omega) (by omega)
  unfold f_law_lot b_law_lot
  have fin : ∀ (T : List Nat) (x : Option Slot), T.length = m → (∀ t ∈ T, t ≤ 7) → 0 < T.sum → AllS (LotT m) ((((mLc (mSeq (mPeek 2)) [5] (gPut 5) tYesM (mA f_law_frac (aCons (mVar 5) (aCons (mA fSum (aCons (mPeek 2) aNil)) aNil))) [some ⟨false, .pot⟩, some ⟨false, .int m⟩, some ⟨true, .lst (iL T)⟩, x, none, none]).bind fun ds => .leaf (D.lst ds)).bind fun d => .leaf [d]).bind fTuple) := by
    intro T x h1 h2 h3
    have h4 := sum_le3 T h2
    have w2 := tops_at (T := T) (by omega) h3 (by omega) (p := some ⟨false, .pot⟩) (m := some ⟨false, .int m⟩) (x := x) (y := none)
    have ft : fTuple [.lst (T.map fun t => fr (frT T.sum t))] = .leaf (lotD (T.map (frT T.sum))) := by
      show Tree.leaf (D.tup _) = _
      unfold lotD
      rw [List.map_map]
      rfl
    generalize fTuple = fu at *
    generalize (T.map fun t => fr (frT T.sum t)) = z at *
    rw [w2]
    simp only [mDef, En.start, oSeq, oIf, oRet, oSet, oOwn, putOwn_z, putOwn_s, oPar, oNx, oFail, oEx, _root_.R.m2, _root_.R.m1, _root_.R.mA, aCons, aNil, _root_.R.mB, _root_.R.mC, mCh, _root_.R.mT, mNot, mAnd, mOr, mAndV, mOrV, mNotV, mIf, mTup, mLst, mList, asB_b, allS_leaf, wipe_n, wipe_c, wset_z, wset_s, tYesM, oAsg, gPut, gTp, gsCons, gsNil, mSeq, seq_l, seq_t, bind_leaf, bind_fail, lineOk_1, lineOk_2, lineOk_3, mPeek_z, mPeek_s, mVar_z, mVar_s, put_z, put_s, opAdd_i, opSub_i, opNeg_i, cLt_i, cLe_i, cGt_i, cGe_i, cEq_i, cNe_i, fAbs_i, fInt_i, fLen_t, fLen_l, ix0, ix1, Bool.false_eq_true, Bool.not_true, Bool.not_false, List.length_cons, List.length_nil, List.map_cons, List.map_nil, List.cons_append, List.nil_append, List.replicate, Nat.reduceAdd, Nat.reduceSub, Nat.zero_add, if_true, if_false, ↓reduceIte, ft]
    exact ⟨T, h1, h2, h3, rfl⟩
  generalize hml : mLc = ml at *
  generalize f_law_draw = fd at *
  generalize hos : oStore = os at *
  simp only [mDef, En.start, oSeq, oIf, oRet, oSet, oOwn, putOwn_z, putOwn_s, oPar, oNx, oFail, oEx, _root_.R.m2, _root_.R.m1, _root_.R.mA, aCons, aNil, _root_.R.mB, _root_.R.mC, mCh, _root_.R.mT, mNot, mAnd, mOr, mAndV, mOrV, mNotV, mIf, mTup, mLst, mList, asB_b, allS_leaf, wipe_n, wipe_c, wset_z, wset_s, tYesM, oAsg, gPut, gTp, gsCons, gsNil, mSeq, seq_l, seq_t, bind_leaf, bind_fail, lineOk_1, lineOk_2, lineOk_3, mPeek_z, mPeek_s, mVar_z, mVar_s, put_z, put_s, opAdd_i, opSub_i, opNeg_i, cLt_i, cLe_i, cGt_i, cGe_i, cEq_i, cNe_i, fAbs_i, fInt_i, fLen_t, fLen_l, ix0, ix1, Bool.false_eq_true, Bool.not_true, Bool.not_false, List.length_cons, List.length_nil, List.map_cons, List.map_nil, List.cons_append, List.nil_append, List.replicate, Nat.reduceAdd, Nat.reduceSub, Nat.zero_add, if_true, if_false, ↓reduceIte]
  repeat rw [allS_bind]
  refine allS_mono w1 fun ys hy => ?_
  clear w1
  obtain ⟨hlen, hy⟩ := hy
  rw [List.length_range] at hlen
  obtain ⟨T, rfl, hT⟩ := iL_of ys hy
  have hTl : T.length = m := by simpa [iL] using hlen
  clear hy hlen
  simp only [mDef, En.start, oSeq, oIf, oRet, oSet, oOwn, putOwn_z, putOwn_s, oPar, oNx, oFail, oEx, _root_.R.m2, _root_.R.m1, _root_.R.mA, aCons, aNil, _root_.R.mB, _root_.R.mC, mCh, _root_.R.mT, mNot, mAnd, mOr, mAndV, mOrV, mNotV, mIf, mTup, mLst, mList, asB_b, allS_leaf, wipe_n, wipe_c, wset_z, wset_s, tYesM, oAsg, gPut, gTp, gsCons, gsNil, mSeq, seq_l, seq_t, bind_leaf, bind_fail, lineOk_1, lineOk_2, lineOk_3, mPeek_z, mPeek_s, mVar_z, mVar_s, put_z, put_s, opAdd_i, opSub_i, opNeg_i, cLt_i, cLe_i, cGt_i, cGe_i, cEq_i, cNe_i, fAbs_i, fInt_i, fLen_t, fLen_l, ix0, ix1, Bool.false_eq_true, Bool.not_true, Bool.not_false, List.length_cons, List.length_nil, List.map_cons, List.map_nil, List.cons_append, List.nil_append, List.replicate, Nat.reduceAdd, Nat.reduceSub, Nat.zero_add, if_true, if_false, ↓reduceIte]
  repeat rw [allS_bind]
  refine allS_go dm fun j j0 j1 => ?_
  obtain ⟨j, rfl⟩ := Int.eq_ofNat_of_zero_le j0
  have hj : j < T.length := by omega
  have st := fun mv => store_at (mi := mPeek 3) (mv := mv) (a := some ⟨false, .pot⟩) (b := some ⟨false, .int m⟩) (c := some ⟨false, .int (j : Int)⟩) (d := none) (e := none) (ds := iL T) (j := j) rfl (by rw [iL_len]; exact hj)
  have ix : opIx (.lst (iL T)) (.int (j : Int)) = .leaf (.int ((T[j] : Nat) : Int)) := by
    have := ix_mk (b := true) (xs := iL T) (k := j) (by rw [iL_len]; exact hj)
    rw [show mk true (iL T) = .lst (iL T) from rfl] at this
    rw [this]
    simp [iL]
  rw [hos] at st
  simp only [mDef, En.start, oSeq, oIf, oRet, oSet, oOwn, putOwn_z, putOwn_s, oPar, oNx, oFail, oEx, _root_.R.m2, _root_.R.m1, _root_.R.mA, aCons, aNil, _root_.R.mB, _root_.R.mC, mCh, _root_.R.mT, mNot, mAnd, mOr, mAndV, mOrV, mNotV, mIf, mTup, mLst, mList, asB_b, allS_leaf, wipe_n, wipe_c, wset_z, wset_s, tYesM, oAsg, gPut, gTp, gsCons, gsNil, mSeq, seq_l, seq_t, bind_leaf, bind_fail, lineOk_1, lineOk_2, lineOk_3, mPeek_z, mPeek_s, mVar_z, mVar_s, put_z, put_s, opAdd_i, opSub_i, opNeg_i, cLt_i, cLe_i, cGt_i, cGe_i, cEq_i, cNe_i, fAbs_i, fInt_i, fLen_t, fLen_l, ix0, ix1, Bool.false_eq_true, Bool.not_true, Bool.not_false, List.length_cons, List.length_nil, List.map_cons, List.map_nil, List.cons_append, List.nil_append, List.replicate, Nat.reduceAdd, Nat.reduceSub, Nat.zero_add, if_true, if_false, ↓reduceIte, st]
  generalize opIx = oi at *
  simp only [mDef, En.start, oSeq, oIf, oRet, oSet, oOwn, putOwn_z, putOwn_s, oPar, oNx, oFail, oEx, _root_.R.m2, _root_.R.m1, _root_.R.mA, aCons, aNil, _root_.R.mB, _root_.R.mC, mCh, _root_.R.mT, mNot, mAnd, mOr, mAndV, mOrV, mNotV, mIf, mTup, mLst, mList, asB_b, allS_leaf, wipe_n, wipe_c, wset_z, wset_s, tYesM, oAsg, gPut, gTp, gsCons, gsNil, mSeq, seq_l, seq_t, bind_leaf, bind_fail, lineOk_1, lineOk_2, lineOk_3, mPeek_z, mPeek_s, mVar_z, mVar_s, put_z, put_s, opAdd_i, opSub_i, opNeg_i, cLt_i, cLe_i, cGt_i, cGe_i, cEq_i, cNe_i, fAbs_i, fInt_i, fLen_t, fLen_l, ix0, ix1, Bool.false_eq_true, Bool.not_true, Bool.not_false, List.length_cons, List.length_nil, List.map_cons, List.map_nil, List.cons_append, List.nil_append, List.replicate, Nat.reduceAdd, Nat.reduceSub, Nat.zero_add, if_true, if_false, ↓reduceIte, ix]
  repeat rw [allS_bind]
  refine allS_go d3 fun z z0 z3 => ?_
  obtain ⟨z, rfl⟩ := Int.eq_ofNat_of_zero_le z0
  simp only [mDef, En.start, oSeq, oIf, oRet, oSet, oOwn, putOwn_z, putOwn_s, oPar, oNx, oFail, oEx, _root_.R.m2, _root_.R.m1, _root_.R.mA, aCons, aNil, _root_.R.mB, _root_.R.mC, mCh, _root_.R.mT, mNot, mAnd, mOr, mAndV, mOrV, mNotV, mIf, mTup, mLst, mList, asB_b, allS_leaf, wipe_n, wipe_c, wset_z, wset_s, tYesM, oAsg, gPut, gTp, gsCons, gsNil, mSeq, seq_l, seq_t, bind_leaf, bind_fail, lineOk_1, lineOk_2, lineOk_3, mPeek_z, mPeek_s, mVar_z, mVar_s, put_z, put_s, opAdd_i, opSub_i, opNeg_i, cLt_i, cLe_i, cGt_i, cGe_i, cEq_i, cNe_i, fAbs_i, fInt_i, fLen_t, fLen_l, ix0, ix1, Bool.false_eq_true, Bool.not_true, Bool.not_false, List.length_cons, List.length_nil, List.map_cons, List.map_nil, List.cons_append, List.nil_append, List.replicate, Nat.reduceAdd, Nat.reduceSub, Nat.zero_add, if_true, if_false, ↓reduceIte]
  have hTj : T[j] ≤ 4 := hT _ (List.getElem_mem hj)
  rw [show ((T[j] : Nat) : Int) + 1 + (z : Int) = ((T[j] + 1 + z : Nat) : Int) by omega, iL_set]
  have hm' : T[j] + 1 + z ∈ T.set j (T[j] + 1 + z) := List.mem_iff_getElem.mpr ⟨j, by rw [List.length_set]; exact hj, by simp⟩
  have hsum := mem_le_sum hm'
  have := fin (T.set j (T[j] + 1 + z)) (some ⟨false, .int (j : Int)⟩) (by rw [List.length_set]; exact hTl) (fun t ht => by
    rcases List.mem_or_eq_of_mem_set ht with h | h
    · have := hT t h; omega
    · omega) (by omega)
  rw [allS_bind]
  refine allS_mono this fun d hd => ?_
  simp only [mDef, En.start, oSeq, oIf, oRet, oSet, oOwn, putOwn_z, putOwn_s, oPar, oNx, oFail, oEx, _root_.R.m2, _root_.R.m1, _root_.R.mA, aCons, aNil, _root_.R.mB, _root_.R.mC, mCh, _root_.R.mT, mNot, mAnd, mOr, mAndV, mOrV, mNotV, mIf, mTup, mLst, mList, asB_b, allS_leaf, wipe_n, wipe_c, wset_z, wset_s, tYesM, oAsg, gPut, gTp, gsCons, gsNil, mSeq, seq_l, seq_t, bind_leaf, bind_fail, lineOk_1, lineOk_2, lineOk_3, mPeek_z, mPeek_s, mVar_z, mVar_s, put_z, put_s, opAdd_i, opSub_i, opNeg_i, cLt_i, cLe_i, cGt_i, cGe_i, cEq_i, cNe_i, fAbs_i, fInt_i, fLen_t, fLen_l, ix0, ix1, Bool.false_eq_true, Bool.not_true, Bool.not_false, List.length_cons, List.length_nil, List.map_cons, List.map_nil, List.cons_append, List.nil_append, List.replicate, Nat.reduceAdd, Nat.reduceSub, Nat.zero_add, if_true, if_false, ↓reduceIte]
  exact hd
end Law

set_option maxRecDepth 100000
set_option linter.all false
namespace Law
open R PySem L2
local macro_rules | `(tactic| walk_at "ev") => `(tactic| simp only [mDef, En.start, oSeq, oIf, oRet, oSet, oOwn, putOwn_z, putOwn_s, oPar, oNx, oFail, oEx, m2, m1, mA, aCons, aNil, mB, mC, mCh, mT, mNot, mAnd, mOr, mAndV, mOrV, mNotV, mIf, mTup, mLst, mList, asB_b, allS_leaf, wipe_n, wipe_c, wset_z, wset_s, tYesM, oAsg, gPut, gTp, gsCons, gsNil, mSeq, seq_l, seq_t, bind_leaf, bind_fail, lineOk_1, lineOk_2, lineOk_3, mPeek_z, mPeek_s, mVar_z, mVar_s, put_z, put_s, opAdd_i, opSub_i, opNeg_i, cLt_i, cLe_i, cGt_i, cGe_i, cEq_i, cNe_i, fAbs_i, fInt_i, fLen_t, fLen_l, ix0, ix1, Bool.false_eq_true, Bool.not_true, Bool.not_false,
  List.length_cons, List.length_nil, List.map_cons, List.map_nil, List.cons_append, List.nil_append, List.replicate, Nat.reduceAdd, Nat.reduceSub, Nat.zero_add, if_true, if_false, ↓reduceIte])

/-! ### lists of lots, by a judge for each -/
def lenD : D → Nat
  | .tup xs => xs.length
  | .lst xs => xs.length
  | _ => 0
def lotsB (J : D → Bool) : List D → Bool
  | [] => false
  | x :: r => (x :: r).all J && (x :: r).all fun y => lenD y == lenD x
theorem lenD_mk (b : Bool) (xs : List D) : lenD (mk b xs) = xs.length := by cases b <;> rfl
theorem lot_len {x : D} (h : isLotB x = true) : fLen [x] = .leaf (.int (lenD x : Int)) := by
  cases x <;> first | rfl | cases h
theorem islist_mk (b : Bool) (xs : List D) : f_is_list [mk b xs] = .leaf (.bl true) := by
  have k := isi_mk b xs
  unfold f_is_list b_is_list
  generalize mk b xs = v at *
  generalize fIsi = fi at *
  simp only [mDef, En.start, oSeq, oIf, oRet, oSet, oOwn, putOwn_z, putOwn_s, oPar, oNx, oFail, oEx, _root_.R.m2, _root_.R.m1, _root_.R.mA, aCons, aNil, _root_.R.mB, _root_.R.mC, mCh, _root_.R.mT, mNot, mAnd, mOr, mAndV, mOrV, mNotV, mIf, mTup, mLst, mList, asB_b, allS_leaf, wipe_n, wipe_c, wset_z, wset_s, tYesM, oAsg, gPut, gTp, gsCons, gsNil, mSeq, seq_l, seq_t, bind_leaf, bind_fail, lineOk_1, lineOk_2, lineOk_3, mPeek_z, mPeek_s, mVar_z, mVar_s, put_z, put_s, opAdd_i, opSub_i, opNeg_i, cLt_i, cLe_i, cGt_i, cGe_i, cEq_i, cNe_i, fAbs_i, fInt_i, fLen_t, fLen_l, ix0, ix1, Bool.false_eq_true, Bool.not_true, Bool.not_false, List.length_cons, List.length_nil, List.map_cons, List.map_nil, List.cons_append, List.nil_append, List.replicate, Nat.reduceAdd, Nat.reduceSub, Nat.zero_add, if_true, if_false, ↓reduceIte, k]
theorem islist_leaf {d : D} (h : leafB d = true) : f_is_list [d] = .leaf (.bl false) := by
  have k := isi_leaf h
  unfold f_is_list b_is_list
  generalize fIsi = fi at *
  simp only [mDef, En.start, oSeq, oIf, oRet, oSet, oOwn, putOwn_z, putOwn_s, oPar, oNx, oFail, oEx, _root_.R.m2, _root_.R.m1, _root_.R.mA, aCons, aNil, _root_.R.mB, _root_.R.mC, mCh, _root_.R.mT, mNot, mAnd, mOr, mAndV, mOrV, mNotV, mIf, mTup, mLst, mList, asB_b, allS_leaf, wipe_n, wipe_c, wset_z, wset_s, tYesM, oAsg, gPut, gTp, gsCons, gsNil, mSeq, seq_l, seq_t, bind_leaf, bind_fail, lineOk_1, lineOk_2, lineOk_3, mPeek_z, mPeek_s, mVar_z, mVar_s, put_z, put_s, opAdd_i, opSub_i, opNeg_i, cLt_i, cLe_i, cGt_i, cGe_i, cEq_i, cNe_i, fAbs_i, fInt_i, fLen_t, fLen_l, ix0, ix1, Bool.false_eq_true, Bool.not_true, Bool.not_false, List.length_cons, List.length_nil, List.map_cons, List.map_nil, List.cons_append, List.nil_append, List.replicate, Nat.reduceAdd, Nat.reduceSub, Nat.zero_add, if_true, if_false, ↓reduceIte, k]
theorem lawlist_mk (b : Bool) (xs : List D) : f_law_is_list [mk b xs] = .leaf (.bl true) := by
  have k := isi_mk b xs
  unfold f_law_is_list b_law_is_list
  generalize mk b xs = v at *
  generalize fIsi = fi at *
  simp only [mDef, En.start, oSeq, oIf, oRet, oSet, oOwn, putOwn_z, putOwn_s, oPar, oNx, oFail, oEx, _root_.R.m2, _root_.R.m1, _root_.R.mA, aCons, aNil, _root_.R.mB, _root_.R.mC, mCh, _root_.R.mT, mNot, mAnd, mOr, mAndV, mOrV, mNotV, mIf, mTup, mLst, mList, asB_b, allS_leaf, wipe_n, wipe_c, wset_z, wset_s, tYesM, oAsg, gPut, gTp, gsCons, gsNil, mSeq, seq_l, seq_t, bind_leaf, bind_fail, lineOk_1, lineOk_2, lineOk_3, mPeek_z, mPeek_s, mVar_z, mVar_s, put_z, put_s, opAdd_i, opSub_i, opNeg_i, cLt_i, cLe_i, cGt_i, cGe_i, cEq_i, cNe_i, fAbs_i, fInt_i, fLen_t, fLen_l, ix0, ix1, Bool.false_eq_true, Bool.not_true, Bool.not_false, List.length_cons, List.length_nil, List.map_cons, List.map_nil, List.cons_append, List.nil_append, List.replicate, Nat.reduceAdd, Nat.reduceSub, Nat.zero_add, if_true, if_false, ↓reduceIte, k]
theorem lawlist_leaf {d : D} (h : leafB d = true) : f_law_is_list [d] = .leaf (.bl false) := by
  have k := isi_leaf h
  unfold f_law_is_list b_law_is_list
  generalize fIsi = fi at *
  simp only [mDef, En.start, oSeq, oIf, oRet, oSet, oOwn, putOwn_z, putOwn_s, oPar, oNx, oFail, oEx, _root_.R.m2, _root_.R.m1, _root_.R.mA, aCons, aNil, _root_.R.mB, _root_.R.mC, mCh, _root_.R.mT, mNot, mAnd, mOr, mAndV, mOrV, mNotV, mIf, mTup, mLst, mList, asB_b, allS_leaf, wipe_n, wipe_c, wset_z, wset_s, tYesM, oAsg, gPut, gTp, gsCons, gsNil, mSeq, seq_l, seq_t, bind_leaf, bind_fail, lineOk_1, lineOk_2, lineOk_3, mPeek_z, mPeek_s, mVar_z, mVar_s, put_z, put_s, opAdd_i, opSub_i, opNeg_i, cLt_i, cLe_i, cGt_i, cGe_i, cEq_i, cNe_i, fAbs_i, fInt_i, fLen_t, fLen_l, ix0, ix1, Bool.false_eq_true, Bool.not_true, Bool.not_false, List.length_cons, List.length_nil, List.map_cons, List.map_nil, List.cons_append, List.nil_append, List.replicate, Nat.reduceAdd, Nat.reduceSub, Nat.zero_add, if_true, if_false, ↓reduceIte, k]
theorem are_lots_leaf {d e : D} (h : leafB d = true) : f_are_lots [d, e] = .leaf (.bl false) := by
  have k := islist_leaf h
  unfold f_are_lots b_are_lots
  generalize f_is_list = fi at *
  simp only [mDef, En.start, oSeq, oIf, oRet, oSet, oOwn, putOwn_z, putOwn_s, oPar, oNx, oFail, oEx, _root_.R.m2, _root_.R.m1, _root_.R.mA, aCons, aNil, _root_.R.mB, _root_.R.mC, mCh, _root_.R.mT, mNot, mAnd, mOr, mAndV, mOrV, mNotV, mIf, mTup, mLst, mList, asB_b, allS_leaf, wipe_n, wipe_c, wset_z, wset_s, tYesM, oAsg, gPut, gTp, gsCons, gsNil, mSeq, seq_l, seq_t, bind_leaf, bind_fail, lineOk_1, lineOk_2, lineOk_3, mPeek_z, mPeek_s, mVar_z, mVar_s, put_z, put_s, opAdd_i, opSub_i, opNeg_i, cLt_i, cLe_i, cGt_i, cGe_i, cEq_i, cNe_i, fAbs_i, fInt_i, fLen_t, fLen_l, ix0, ix1, Bool.false_eq_true, Bool.not_true, Bool.not_false, List.length_cons, List.length_nil, List.map_cons, List.map_nil, List.cons_append, List.nil_append, List.replicate, Nat.reduceAdd, Nat.reduceSub, Nat.zero_add, if_true, if_false, ↓reduceIte, k]
theorem callv_at {i n : Nat} {disp : List (List D → Tree D)} {ma : En → Tree (List D)} {E : En} (h : E[i]? = some (some ⟨false, .fn n⟩)) : mCallV i disp ma E = mA (disp.getD n fun _ => .fail) ma E := by
  unfold mCallV
  rw [h]
theorem cEq_nat (a b : Nat) : cEq (.int (a : Int)) (.int (b : Int)) = .leaf (a == b) := by
  rw [cEq_i]
  congr 1
  rw [Bool.eq_iff_iff, beq_iff_eq, beq_iff_eq]
  omega
theorem same_at {k : Nat} {xs : List D} {x : D} {b : Bool} {p q : Option Slot} (hx : xs[0]? = some x) (hl : xs.length ≤ 100) (hlen : ∀ y ∈ xs, fLen [y] = .leaf (.int (lenD y : Int))) :
    mLc (mSeq (mPeek 0)) [1] (gPut 1) tYesM (mB (mC cEq (mA fLen (aCons (mPeek 1) aNil)) (mA fLen (aCons (m2 opIx (mPeek 0) (fun _ => .leaf (.int 0))) aNil)))) [some ⟨false, mk b xs⟩, p] = .leaf (xs.map fun y => .bl (lenD y == lenD x)) := by
  have h0 : 0 < xs.length := by
    cases xs with
    | nil => cases hx
    | cons a r => simp
  have e0 : xs[0] = x := by
    rw [List.getElem?_eq_getElem h0] at hx
    exact Option.some.inj hx
  have ix := ix_mk (b := b) h0
  rw [e0] at ix
  have ix : opIx (mk b xs) (.int 0) = .leaf x := ix
  have lx := hlen x (e0 ▸ List.getElem_mem h0)
  have sq := seq_mk b xs
  refine mLc_at (L := xs) (dx := id) (f := fun y => .bl (lenD y == lenD x)) (by simp only [mDef, En.start, oSeq, oIf, oRet, oSet, oOwn, putOwn_z, putOwn_s, oPar, oNx, oFail, oEx, _root_.R.m2, _root_.R.m1, _root_.R.mA, aCons, aNil, _root_.R.mB, _root_.R.mC, mCh, _root_.R.mT, mNot, mAnd, mOr, mAndV, mOrV, mNotV, mIf, mTup, mLst, mList, asB_b, allS_leaf, wipe_n, wipe_c, wset_z, wset_s, tYesM, oAsg, gPut, gTp, gsCons, gsNil, mSeq, seq_l, seq_t, bind_leaf, bind_fail, lineOk_1, lineOk_2, lineOk_3, mPeek_z, mPeek_s, mVar_z, mVar_s, put_z, put_s, opAdd_i, opSub_i, opNeg_i, cLt_i, cLe_i, cGt_i, cGe_i, cEq_i, cNe_i, fAbs_i, fInt_i, fLen_t, fLen_l, ix0, ix1, Bool.false_eq_true, Bool.not_true, Bool.not_false, List.length_cons, List.length_nil, List.map_cons, List.map_nil, List.cons_append, List.nil_append, List.replicate, Nat.reduceAdd, Nat.reduceSub, Nat.zero_add, if_true, if_false, ↓reduceIte, sq, List.map_id]) hl fun y hy => ⟨[some ⟨false, mk b xs⟩, some ⟨false, y⟩], by simp only [mDef, En.start, oSeq, oIf, oRet, oSet, oOwn, putOwn_z, putOwn_s, oPar, oNx, oFail, oEx, _root_.R.m2, _root_.R.m1, _root_.R.mA, aCons, aNil, _root_.R.mB, _root_.R.mC, mCh, _root_.R.mT, mNot, mAnd, mOr, mAndV, mOrV, mNotV, mIf, mTup, mLst, mList, asB_b, allS_leaf, wipe_n, wipe_c, wset_z, wset_s, tYesM, oAsg, gPut, gTp, gsCons, gsNil, mSeq, seq_l, seq_t, bind_leaf, bind_fail, lineOk_1, lineOk_2, lineOk_3, mPeek_z, mPeek_s, mVar_z, mVar_s, put_z, put_s, opAdd_i, opSub_i, opNeg_i, cLt_i, cLe_i, cGt_i, cGe_i, cEq_i, cNe_i, fAbs_i, fInt_i, fLen_t, fLen_l, ix0, ix1, Bool.false_eq_true, Bool.not_true, Bool.not_false, List.length_cons, List.length_nil, List.map_cons, List.map_nil, List.cons_append, List.nil_append, List.replicate, Nat.reduceAdd, Nat.reduceSub, Nat.zero_add, if_true, if_false, ↓reduceIte]; rfl, rfl, ?_⟩
  have ly := hlen y hy
  have ce := cEq_nat (lenD y) (lenD x)
  generalize mk b xs = v at *
  generalize opIx = oi at *
  generalize fLen = fl at *
  generalize cEq = cc at *
  simp only [mDef, En.start, oSeq, oIf, oRet, oSet, oOwn, putOwn_z, putOwn_s, oPar, oNx, oFail, oEx, _root_.R.m2, _root_.R.m1, _root_.R.mA, aCons, aNil, _root_.R.mB, _root_.R.mC, mCh, _root_.R.mT, mNot, mAnd, mOr, mAndV, mOrV, mNotV, mIf, mTup, mLst, mList, asB_b, allS_leaf, wipe_n, wipe_c, wset_z, wset_s, tYesM, oAsg, gPut, gTp, gsCons, gsNil, mSeq, seq_l, seq_t, bind_leaf, bind_fail, lineOk_1, lineOk_2, lineOk_3, mPeek_z, mPeek_s, mVar_z, mVar_s, put_z, put_s, opAdd_i, opSub_i, opNeg_i, cLt_i, cLe_i, cGt_i, cGe_i, cEq_i, cNe_i, fAbs_i, fInt_i, fLen_t, fLen_l, ix0, ix1, Bool.false_eq_true, Bool.not_true, Bool.not_false, List.length_cons, List.length_nil, List.map_cons, List.map_nil, List.cons_append, List.nil_append, List.replicate, Nat.reduceAdd, Nat.reduceSub, Nat.zero_add, if_true, if_false, ↓reduceIte, ix, lx, ly, ce]
theorem same_at2 {xs : List D} {x : D} {b : Bool} {p q : Option Slot} (hx : xs[0]? = some x) (hl : xs.length ≤ 100) (hlen : ∀ y ∈ xs, fLen [y] = .leaf (.int (lenD y : Int))) :
    mLc (mSeq (mPeek 0)) [2] (gPut 2) tYesM (mB (mC cEq (mA fLen (aCons (mPeek 2) aNil)) (mA fLen (aCons (m2 opIx (mPeek 0) (fun _ => .leaf (.int 0))) aNil)))) [some ⟨false, mk b xs⟩, p, q] = .leaf (xs.map fun y => .bl (lenD y == lenD x)) := by
  have h0 : 0 < xs.length := by
    cases xs with
    | nil => cases hx
    | cons a r => simp
  have e0 : xs[0] = x := by
    rw [List.getElem?_eq_getElem h0] at hx
    exact Option.some.inj hx
  have ix := ix_mk (b := b) h0
  rw [e0] at ix
  have ix : opIx (mk b xs) (.int 0) = .leaf x := ix
  have lx := hlen x (e0 ▸ List.getElem_mem h0)
  have sq := seq_mk b xs
  refine mLc_at (L := xs) (dx := id) (f := fun y => .bl (lenD y == lenD x)) (by simp only [mDef, En.start, oSeq, oIf, oRet, oSet, oOwn, putOwn_z, putOwn_s, oPar, oNx, oFail, oEx, _root_.R.m2, _root_.R.m1, _root_.R.mA, aCons, aNil, _root_.R.mB, _root_.R.mC, mCh, _root_.R.mT, mNot, mAnd, mOr, mAndV, mOrV, mNotV, mIf, mTup, mLst, mList, asB_b, allS_leaf, wipe_n, wipe_c, wset_z, wset_s, tYesM, oAsg, gPut, gTp, gsCons, gsNil, mSeq, seq_l, seq_t, bind_leaf, bind_fail, lineOk_1, lineOk_2, lineOk_3, mPeek_z, mPeek_s, mVar_z, mVar_s, put_z, put_s, opAdd_i, opSub_i, opNeg_i, cLt_i, cLe_i, cGt_i, cGe_i, cEq_i, cNe_i, fAbs_i, fInt_i, fLen_t, fLen_l, ix0, ix1, Bool.false_eq_true, Bool.not_true, Bool.not_false, List.length_cons, List.length_nil, List.map_cons, List.map_nil, List.cons_append, List.nil_append, List.replicate, Nat.reduceAdd, Nat.reduceSub, Nat.zero_add, if_true, if_false, ↓reduceIte, sq, List.map_id]) hl fun y hy => ⟨[some ⟨false, mk b xs⟩, p, some ⟨false, y⟩], by simp only [mDef, En.start, oSeq, oIf, oRet, oSet, oOwn, putOwn_z, putOwn_s, oPar, oNx, oFail, oEx, _root_.R.m2, _root_.R.m1, _root_.R.mA, aCons, aNil, _root_.R.mB, _root_.R.mC, mCh, _root_.R.mT, mNot, mAnd, mOr, mAndV, mOrV, mNotV, mIf, mTup, mLst, mList, asB_b, allS_leaf, wipe_n, wipe_c, wset_z, wset_s, tYesM, oAsg, gPut, gTp, gsCons, gsNil, mSeq, seq_l, seq_t, bind_leaf, bind_fail, lineOk_1, lineOk_2, lineOk_3, mPeek_z, mPeek_s, mVar_z, mVar_s, put_z, put_s, opAdd_i, opSub_i, opNeg_i, cLt_i, cLe_i, cGt_i, cGe_i, cEq_i, cNe_i, fAbs_i, fInt_i, fLen_t, fLen_l, ix0, ix1, Bool.false_eq_true, Bool.not_true, Bool.not_false, List.length_cons, List.length_nil, List.map_cons, List.map_nil, List.cons_append, List.nil_append, List.replicate, Nat.reduceAdd, Nat.reduceSub, Nat.zero_add, if_true, if_false, ↓reduceIte]; rfl, rfl, ?_⟩
  have ly := hlen y hy
  have ce := cEq_nat (lenD y) (lenD x)
  generalize mk b xs = v at *
  generalize opIx = oi at *
  generalize fLen = fl at *
  generalize cEq = cc at *
  simp only [mDef, En.start, oSeq, oIf, oRet, oSet, oOwn, putOwn_z, putOwn_s, oPar, oNx, oFail, oEx, _root_.R.m2, _root_.R.m1, _root_.R.mA, aCons, aNil, _root_.R.mB, _root_.R.mC, mCh, _root_.R.mT, mNot, mAnd, mOr, mAndV, mOrV, mNotV, mIf, mTup, mLst, mList, asB_b, allS_leaf, wipe_n, wipe_c, wset_z, wset_s, tYesM, oAsg, gPut, gTp, gsCons, gsNil, mSeq, seq_l, seq_t, bind_leaf, bind_fail, lineOk_1, lineOk_2, lineOk_3, mPeek_z, mPeek_s, mVar_z, mVar_s, put_z, put_s, opAdd_i, opSub_i, opNeg_i, cLt_i, cLe_i, cGt_i, cGe_i, cEq_i, cNe_i, fAbs_i, fInt_i, fLen_t, fLen_l, ix0, ix1, Bool.false_eq_true, Bool.not_true, Bool.not_false, List.length_cons, List.length_nil, List.map_cons, List.map_nil, List.cons_append, List.nil_append, List.replicate, Nat.reduceAdd, Nat.reduceSub, Nat.zero_add, if_true, if_false, ↓reduceIte, ix, lx, ly, ce]
theorem are_lots_mk {n : Nat} {f : List D → Tree D} {J : D → Bool} {b : Bool} {xs : List D} (hf : ([f_is_fraction_of, f_is_lot_of, f_is_short_lot].getD n fun _ => .fail) = f) (hl : xs.length ≤ 100) (hJ : ∀ x ∈ xs, f [x] = .leaf (.bl (J x)))
    (hlen : ∀ x ∈ xs, J x = true → fLen [x] = .leaf (.int (lenD x : Int))) : f_are_lots [mk b xs, .fn n] = .leaf (.bl (lotsB J xs)) := by
  have k1 := islist_mk b xs
  have k2 := len_mk b xs
  have sq := seq_mk b xs
  have c1 : mLc (mSeq (mPeek 0)) [2] (gPut 2) tYesM (mCallV 1 [f_is_fraction_of, f_is_lot_of, f_is_short_lot] (aCons (mVar 2) aNil)) [some ⟨false, mk b xs⟩, some ⟨false, .fn n⟩, none] = .leaf (xs.map fun x => .bl (J x)) := by
    refine mLc_at (L := xs) (dx := id) (f := fun x => .bl (J x)) (by simp only [mDef, En.start, oSeq, oIf, oRet, oSet, oOwn, putOwn_z, putOwn_s, oPar, oNx, oFail, oEx, _root_.R.m2, _root_.R.m1, _root_.R.mA, aCons, aNil, _root_.R.mB, _root_.R.mC, mCh, _root_.R.mT, mNot, mAnd, mOr, mAndV, mOrV, mNotV, mIf, mTup, mLst, mList, asB_b, allS_leaf, wipe_n, wipe_c, wset_z, wset_s, tYesM, oAsg, gPut, gTp, gsCons, gsNil, mSeq, seq_l, seq_t, bind_leaf, bind_fail, lineOk_1, lineOk_2, lineOk_3, mPeek_z, mPeek_s, mVar_z, mVar_s, put_z, put_s, opAdd_i, opSub_i, opNeg_i, cLt_i, cLe_i, cGt_i, cGe_i, cEq_i, cNe_i, fAbs_i, fInt_i, fLen_t, fLen_l, ix0, ix1, Bool.false_eq_true, Bool.not_true, Bool.not_false, List.length_cons, List.length_nil, List.map_cons, List.map_nil, List.cons_append, List.nil_append, List.replicate, Nat.reduceAdd, Nat.reduceSub, Nat.zero_add, if_true, if_false, ↓reduceIte, sq, List.map_id]) hl fun x hx => ⟨[some ⟨false, mk b xs⟩, some ⟨false, .fn n⟩, some ⟨false, x⟩], by simp only [mDef, En.start, oSeq, oIf, oRet, oSet, oOwn, putOwn_z, putOwn_s, oPar, oNx, oFail, oEx, _root_.R.m2, _root_.R.m1, _root_.R.mA, aCons, aNil, _root_.R.mB, _root_.R.mC, mCh, _root_.R.mT, mNot, mAnd, mOr, mAndV, mOrV, mNotV, mIf, mTup, mLst, mList, asB_b, allS_leaf, wipe_n, wipe_c, wset_z, wset_s, tYesM, oAsg, gPut, gTp, gsCons, gsNil, mSeq, seq_l, seq_t, bind_leaf, bind_fail, lineOk_1, lineOk_2, lineOk_3, mPeek_z, mPeek_s, mVar_z, mVar_s, put_z, put_s, opAdd_i, opSub_i, opNeg_i, cLt_i, cLe_i, cGt_i, cGe_i, cEq_i, cNe_i, fAbs_i, fInt_i, fLen_t, fLen_l, ix0, ix1, Bool.false_eq_true, Bool.not_true, Bool.not_false, List.length_cons, List.length_nil, List.map_cons, List.map_nil, List.cons_append, List.nil_append, List.replicate, Nat.reduceAdd, Nat.reduceSub, Nat.zero_add, if_true, if_false, ↓reduceIte]; rfl, rfl, ?_⟩
    rw [callv_at (n := n) rfl, hf]
    have k := hJ x hx
    simp only [mDef, En.start, oSeq, oIf, oRet, oSet, oOwn, putOwn_z, putOwn_s, oPar, oNx, oFail, oEx, _root_.R.m2, _root_.R.m1, _root_.R.mA, aCons, aNil, _root_.R.mB, _root_.R.mC, mCh, _root_.R.mT, mNot, mAnd, mOr, mAndV, mOrV, mNotV, mIf, mTup, mLst, mList, asB_b, allS_leaf, wipe_n, wipe_c, wset_z, wset_s, tYesM, oAsg, gPut, gTp, gsCons, gsNil, mSeq, seq_l, seq_t, bind_leaf, bind_fail, lineOk_1, lineOk_2, lineOk_3, mPeek_z, mPeek_s, mVar_z, mVar_s, put_z, put_s, opAdd_i, opSub_i, opNeg_i, cLt_i, cLe_i, cGt_i, cGe_i, cEq_i, cNe_i, fAbs_i, fInt_i, fLen_t, fLen_l, ix0, ix1, Bool.false_eq_true, Bool.not_true, Bool.not_false, List.length_cons, List.length_nil, List.map_cons, List.map_nil, List.cons_append, List.nil_append, List.replicate, Nat.reduceAdd, Nat.reduceSub, Nat.zero_add, if_true, if_false, ↓reduceIte, k]
  have a1 := all_bl J xs
  cases xs with
  | nil =>
    have k2 : fLen [mk b []] = .leaf (.int 0) := k2
    have k4 : cEq (.int 0) (.int 0) = .leaf true := rfl
    show _ = Tree.leaf (D.bl false)
    clear c1 a1 hJ hlen hf sq
    unfold f_are_lots b_are_lots
    generalize mk b [] = v at *
    generalize f_is_list = f1 at *
    generalize fLen = f2 at *
    generalize cEq = f3 at *
    simp only [mDef, En.start, oSeq, oIf, oRet, oSet, oOwn, putOwn_z, putOwn_s, oPar, oNx, oFail, oEx, _root_.R.m2, _root_.R.m1, _root_.R.mA, aCons, aNil, _root_.R.mB, _root_.R.mC, mCh, _root_.R.mT, mNot, mAnd, mOr, mAndV, mOrV, mNotV, mIf, mTup, mLst, mList, asB_b, allS_leaf, wipe_n, wipe_c, wset_z, wset_s, tYesM, oAsg, gPut, gTp, gsCons, gsNil, mSeq, seq_l, seq_t, bind_leaf, bind_fail, lineOk_1, lineOk_2, lineOk_3, mPeek_z, mPeek_s, mVar_z, mVar_s, put_z, put_s, opAdd_i, opSub_i, opNeg_i, cLt_i, cLe_i, cGt_i, cGe_i, cEq_i, cNe_i, fAbs_i, fInt_i, fLen_t, fLen_l, ix0, ix1, Bool.false_eq_true, Bool.not_true, Bool.not_false, List.length_cons, List.length_nil, List.map_cons, List.map_nil, List.cons_append, List.nil_append, List.replicate, Nat.reduceAdd, Nat.reduceSub, Nat.zero_add, if_true, if_false, ↓reduceIte, k1, k2, k4]
  | cons x r =>
    have k4 : ((((x :: r).length : Int)) == 0) = false := beq_eq_false_iff_ne.mpr (by rw [List.length_cons]; omega)
    have e : lotsB J (x :: r) = ((x :: r).all J && (x :: r).all fun y => lenD y == lenD x) := rfl
    rw [e]
    by_cases hall : (x :: r).all J = true
    · have c2 := same_at2 (xs := x :: r) (x := x) (b := b) (p := some ⟨false, .fn n⟩) (q := none) rfl hl fun y hy => hlen y hy (List.all_eq_true.mp hall y hy)
      have a2 := all_bl (fun y => lenD y == lenD x) (x :: r)
      rw [hall] at a1 ⊢
      clear hJ hlen hf hall e sq
      generalize x :: r = zs at *
      generalize (zs.length : Int) = m at *
      unfold f_are_lots b_are_lots
      generalize (zs.map fun x => D.bl (J x)) = ys at *
      generalize (zs.map fun y => D.bl (lenD y == lenD x)) = ws at *
      generalize mk b zs = v at *
      generalize f_is_list = f1 at *
      generalize fLen = f2 at *
      generalize fAll = f4 at *
      generalize mLc = f5 at *
      simp only [mDef, En.start, oSeq, oIf, oRet, oSet, oOwn, putOwn_z, putOwn_s, oPar, oNx, oFail, oEx, _root_.R.m2, _root_.R.m1, _root_.R.mA, aCons, aNil, _root_.R.mB, _root_.R.mC, mCh, _root_.R.mT, mNot, mAnd, mOr, mAndV, mOrV, mNotV, mIf, mTup, mLst, mList, asB_b, allS_leaf, wipe_n, wipe_c, wset_z, wset_s, tYesM, oAsg, gPut, gTp, gsCons, gsNil, mSeq, seq_l, seq_t, bind_leaf, bind_fail, lineOk_1, lineOk_2, lineOk_3, mPeek_z, mPeek_s, mVar_z, mVar_s, put_z, put_s, opAdd_i, opSub_i, opNeg_i, cLt_i, cLe_i, cGt_i, cGe_i, cEq_i, cNe_i, fAbs_i, fInt_i, fLen_t, fLen_l, ix0, ix1, Bool.false_eq_true, Bool.not_true, Bool.not_false, List.length_cons, List.length_nil, List.map_cons, List.map_nil, List.cons_append, List.nil_append, List.replicate, Nat.reduceAdd, Nat.reduceSub, Nat.zero_add, if_true, if_false, ↓reduceIte, k1, k2, k4, c1, a1, c2, a2, Bool.true_and]
    · rw [Bool.eq_false_iff.mpr hall] at a1 ⊢
      clear hJ hlen hf hall e sq
      generalize x :: r = zs at *
      generalize (zs.length : Int) = m at *
      unfold f_are_lots b_are_lots
      generalize (zs.map fun x => D.bl (J x)) = ys at *
      generalize mk b zs = v at *
      generalize f_is_list = f1 at *
      generalize fLen = f2 at *
      generalize fAll = f4 at *
      generalize mLc = f5 at *
      simp only [mDef, En.start, oSeq, oIf, oRet, oSet, oOwn, putOwn_z, putOwn_s, oPar, oNx, oFail, oEx, _root_.R.m2, _root_.R.m1, _root_.R.mA, aCons, aNil, _root_.R.mB, _root_.R.mC, mCh, _root_.R.mT, mNot, mAnd, mOr, mAndV, mOrV, mNotV, mIf, mTup, mLst, mList, asB_b, allS_leaf, wipe_n, wipe_c, wset_z, wset_s, tYesM, oAsg, gPut, gTp, gsCons, gsNil, mSeq, seq_l, seq_t, bind_leaf, bind_fail, lineOk_1, lineOk_2, lineOk_3, mPeek_z, mPeek_s, mVar_z, mVar_s, put_z, put_s, opAdd_i, opSub_i, opNeg_i, cLt_i, cLe_i, cGt_i, cGe_i, cEq_i, cNe_i, fAbs_i, fInt_i, fLen_t, fLen_l, ix0, ix1, Bool.false_eq_true, Bool.not_true, Bool.not_false, List.length_cons, List.length_nil, List.map_cons, List.map_nil, List.cons_append, List.nil_append, List.replicate, Nat.reduceAdd, Nat.reduceSub, Nat.zero_add, if_true, if_false, ↓reduceIte, k1, k2, k4, c1, a1, Bool.false_and]
/-! ### looks -/
theorem look1 {n : Nat} {b : Bool} {xs : List D} (hl : xs.length ≤ 100) (hn : ∀ x ∈ xs, numD (n + 3) x = true) : f_is_look [mk b xs] = .leaf (.bl (lotsB isLotB xs && decide (xs.length ≤ 6))) := by
  have k := are_lots_mk (n := 1) (f := f_is_lot_of) (J := isLotB) (b := b) (xs := xs) rfl hl (fun x hx => (lot_eq (hn x hx)).1) fun x _ h => lot_len h
  have k2 := len_mk b xs
  have e : cLe (.int (xs.length : Int)) (.int 6) = .leaf (decide (xs.length ≤ 6)) := by
    rw [cLe_i]
    congr 1
    exact decide_eq_decide.mpr (by omega)
  clear hn hl
  unfold f_is_look b_is_look f_is_look_of b_is_look_of
  generalize mk b xs = v at *
  generalize (xs.length : Int) = m at *
  generalize f_are_lots = f1 at *
  generalize fLen = f2 at *
  generalize cLe = f3 at *
  generalize lotsB isLotB xs = bb at *
  cases bb
  · simp only [mDef, En.start, oSeq, oIf, oRet, oSet, oOwn, putOwn_z, putOwn_s, oPar, oNx, oFail, oEx, _root_.R.m2, _root_.R.m1, _root_.R.mA, aCons, aNil, _root_.R.mB, _root_.R.mC, mCh, _root_.R.mT, mNot, mAnd, mOr, mAndV, mOrV, mNotV, mIf, mTup, mLst, mList, asB_b, allS_leaf, wipe_n, wipe_c, wset_z, wset_s, tYesM, oAsg, gPut, gTp, gsCons, gsNil, mSeq, seq_l, seq_t, bind_leaf, bind_fail, lineOk_1, lineOk_2, lineOk_3, mPeek_z, mPeek_s, mVar_z, mVar_s, put_z, put_s, opAdd_i, opSub_i, opNeg_i, cLt_i, cLe_i, cGt_i, cGe_i, cEq_i, cNe_i, fAbs_i, fInt_i, fLen_t, fLen_l, ix0, ix1, Bool.false_eq_true, Bool.not_true, Bool.not_false, List.length_cons, List.length_nil, List.map_cons, List.map_nil, List.cons_append, List.nil_append, List.replicate, Nat.reduceAdd, Nat.reduceSub, Nat.zero_add, if_true, if_false, ↓reduceIte, k, k2, e]
    rfl
  · simp only [mDef, En.start, oSeq, oIf, oRet, oSet, oOwn, putOwn_z, putOwn_s, oPar, oNx, oFail, oEx, _root_.R.m2, _root_.R.m1, _root_.R.mA, aCons, aNil, _root_.R.mB, _root_.R.mC, mCh, _root_.R.mT, mNot, mAnd, mOr, mAndV, mOrV, mNotV, mIf, mTup, mLst, mList, asB_b, allS_leaf, wipe_n, wipe_c, wset_z, wset_s, tYesM, oAsg, gPut, gTp, gsCons, gsNil, mSeq, seq_l, seq_t, bind_leaf, bind_fail, lineOk_1, lineOk_2, lineOk_3, mPeek_z, mPeek_s, mVar_z, mVar_s, put_z, put_s, opAdd_i, opSub_i, opNeg_i, cLt_i, cLe_i, cGt_i, cGe_i, cEq_i, cNe_i, fAbs_i, fInt_i, fLen_t, fLen_l, ix0, ix1, Bool.false_eq_true, Bool.not_true, Bool.not_false, List.length_cons, List.length_nil, List.map_cons, List.map_nil, List.cons_append, List.nil_append, List.replicate, Nat.reduceAdd, Nat.reduceSub, Nat.zero_add, if_true, if_false, ↓reduceIte, k, k2, e]
    rfl
theorem look2 {n : Nat} {b : Bool} {xs : List D} (hl : xs.length ≤ 100) (hn : ∀ x ∈ xs, numD (n + 3) x = true) : f_law_is_look [mk b xs] = .leaf (.bl (lotsB isLotB xs && decide (xs.length ≤ 6))) := by
  have k1 := lawlist_mk b xs
  have k2 := len_mk b xs
  have sq := seq_mk b xs
  have c1 : mLc (mSeq (mPeek 0)) [1] (gPut 1) tYesM (mA f_law_is_lot (aCons (mVar 1) (aCons (fun _ => .leaf (.int 8)) aNil))) [some ⟨false, mk b xs⟩, none] = .leaf (xs.map fun x => .bl (isLotB x)) := by
    refine mLc_at (L := xs) (dx := id) (f := fun x => .bl (isLotB x)) (by simp only [mDef, En.start, oSeq, oIf, oRet, oSet, oOwn, putOwn_z, putOwn_s, oPar, oNx, oFail, oEx, _root_.R.m2, _root_.R.m1, _root_.R.mA, aCons, aNil, _root_.R.mB, _root_.R.mC, mCh, _root_.R.mT, mNot, mAnd, mOr, mAndV, mOrV, mNotV, mIf, mTup, mLst, mList, asB_b, allS_leaf, wipe_n, wipe_c, wset_z, wset_s, tYesM, oAsg, gPut, gTp, gsCons, gsNil, mSeq, seq_l, seq_t, bind_leaf, bind_fail, lineOk_1, lineOk_2, lineOk_3, mPeek_z, mPeek_s, mVar_z, mVar_s, put_z, put_s, opAdd_i, opSub_i, opNeg_i, cLt_i, cLe_i, cGt_i, cGe_i, cEq_i, cNe_i, fAbs_i, fInt_i, fLen_t, fLen_l, ix0, ix1, Bool.false_eq_true, Bool.not_true, Bool.not_false, List.length_cons, List.length_nil, List.map_cons, List.map_nil, List.cons_append, List.nil_append, List.replicate, Nat.reduceAdd, Nat.reduceSub, Nat.zero_add, if_true, if_false, ↓reduceIte, sq, List.map_id]) hl fun x hx => ⟨[some ⟨false, mk b xs⟩, some ⟨false, x⟩], by simp only [mDef, En.start, oSeq, oIf, oRet, oSet, oOwn, putOwn_z, putOwn_s, oPar, oNx, oFail, oEx, _root_.R.m2, _root_.R.m1, _root_.R.mA, aCons, aNil, _root_.R.mB, _root_.R.mC, mCh, _root_.R.mT, mNot, mAnd, mOr, mAndV, mOrV, mNotV, mIf, mTup, mLst, mList, asB_b, allS_leaf, wipe_n, wipe_c, wset_z, wset_s, tYesM, oAsg, gPut, gTp, gsCons, gsNil, mSeq, seq_l, seq_t, bind_leaf, bind_fail, lineOk_1, lineOk_2, lineOk_3, mPeek_z, mPeek_s, mVar_z, mVar_s, put_z, put_s, opAdd_i, opSub_i, opNeg_i, cLt_i, cLe_i, cGt_i, cGe_i, cEq_i, cNe_i, fAbs_i, fInt_i, fLen_t, fLen_l, ix0, ix1, Bool.false_eq_true, Bool.not_true, Bool.not_false, List.length_cons, List.length_nil, List.map_cons, List.map_nil, List.cons_append, List.nil_append, List.replicate, Nat.reduceAdd, Nat.reduceSub, Nat.zero_add, if_true, if_false, ↓reduceIte]; rfl, rfl, ?_⟩
    have k := (lot_eq (hn x hx)).2
    generalize f_law_is_lot = fl at *
    simp only [mDef, En.start, oSeq, oIf, oRet, oSet, oOwn, putOwn_z, putOwn_s, oPar, oNx, oFail, oEx, _root_.R.m2, _root_.R.m1, _root_.R.mA, aCons, aNil, _root_.R.mB, _root_.R.mC, mCh, _root_.R.mT, mNot, mAnd, mOr, mAndV, mOrV, mNotV, mIf, mTup, mLst, mList, asB_b, allS_leaf, wipe_n, wipe_c, wset_z, wset_s, tYesM, oAsg, gPut, gTp, gsCons, gsNil, mSeq, seq_l, seq_t, bind_leaf, bind_fail, lineOk_1, lineOk_2, lineOk_3, mPeek_z, mPeek_s, mVar_z, mVar_s, put_z, put_s, opAdd_i, opSub_i, opNeg_i, cLt_i, cLe_i, cGt_i, cGe_i, cEq_i, cNe_i, fAbs_i, fInt_i, fLen_t, fLen_l, ix0, ix1, Bool.false_eq_true, Bool.not_true, Bool.not_false, List.length_cons, List.length_nil, List.map_cons, List.map_nil, List.cons_append, List.nil_append, List.replicate, Nat.reduceAdd, Nat.reduceSub, Nat.zero_add, if_true, if_false, ↓reduceIte, k]
  have a1 := all_bl isLotB xs
  have e1 : cLe (.int 1) (.int (xs.length : Int)) = .leaf (decide (1 ≤ xs.length)) := by
    rw [cLe_i]
    congr 1
    exact decide_eq_decide.mpr (by omega)
  have e6 : cLe (.int (xs.length : Int)) (.int 6) = .leaf (decide (xs.length ≤ 6)) := by
    rw [cLe_i]
    congr 1
    exact decide_eq_decide.mpr (by omega)
  cases xs with
  | nil =>
    have e1 : cLe (.int 1) (.int (([] : List D).length : Int)) = .leaf false := rfl
    show _ = Tree.leaf (D.bl false)
    clear c1 a1 e6 sq hn hl
    unfold f_law_is_look b_law_is_look
    generalize (([] : List D).length : Int) = m at *
    generalize mk b [] = v at *
    generalize f_law_is_list = f1 at *
    generalize fLen = f2 at *
    generalize cLe = f3 at *
    simp only [mDef, En.start, oSeq, oIf, oRet, oSet, oOwn, putOwn_z, putOwn_s, oPar, oNx, oFail, oEx, _root_.R.m2, _root_.R.m1, _root_.R.mA, aCons, aNil, _root_.R.mB, _root_.R.mC, mCh, _root_.R.mT, mNot, mAnd, mOr, mAndV, mOrV, mNotV, mIf, mTup, mLst, mList, asB_b, allS_leaf, wipe_n, wipe_c, wset_z, wset_s, tYesM, oAsg, gPut, gTp, gsCons, gsNil, mSeq, seq_l, seq_t, bind_leaf, bind_fail, lineOk_1, lineOk_2, lineOk_3, mPeek_z, mPeek_s, mVar_z, mVar_s, put_z, put_s, opAdd_i, opSub_i, opNeg_i, cLt_i, cLe_i, cGt_i, cGe_i, cEq_i, cNe_i, fAbs_i, fInt_i, fLen_t, fLen_l, ix0, ix1, Bool.false_eq_true, Bool.not_true, Bool.not_false, List.length_cons, List.length_nil, List.map_cons, List.map_nil, List.cons_append, List.nil_append, List.replicate, Nat.reduceAdd, Nat.reduceSub, Nat.zero_add, if_true, if_false, ↓reduceIte, k1, k2, e1]
  | cons x r =>
    have e : lotsB isLotB (x :: r) = ((x :: r).all isLotB && (x :: r).all fun y => lenD y == lenD x) := rfl
    rw [e]
    rw [decide_eq_true (show 1 ≤ (x :: r).length by simp)] at e1
    by_cases h6 : (x :: r).length ≤ 6
    · rw [decide_eq_true h6] at e6 ⊢
      rw [Bool.and_true]
      by_cases hall : (x :: r).all isLotB = true
      · have c2 := same_at (k := 0) (xs := x :: r) (x := x) (b := b) (p := none) (q := none) rfl hl fun y hy => lot_len (List.all_eq_true.mp hall y hy)
        have a2 := all_bl (fun y => lenD y == lenD x) (x :: r)
        rw [hall] at a1 ⊢
        clear hn hall e sq hl h6
        generalize x :: r = zs at *
        generalize (zs.length : Int) = m at *
        unfold f_law_is_look b_law_is_look
        generalize (zs.map fun x => D.bl (isLotB x)) = ys at *
        generalize (zs.map fun y => D.bl (lenD y == lenD x)) = ws at *
        generalize mk b zs = v at *
        generalize f_law_is_list = f1 at *
        generalize fLen = f2 at *
        generalize cLe = f3 at *
        generalize fAll = f4 at *
        generalize mLc = f5 at *
        simp only [mDef, En.start, oSeq, oIf, oRet, oSet, oOwn, putOwn_z, putOwn_s, oPar, oNx, oFail, oEx, _root_.R.m2, _root_.R.m1, _root_.R.mA, aCons, aNil, _root_.R.mB, _root_.R.mC, mCh, _root_.R.mT, mNot, mAnd, mOr, mAndV, mOrV, mNotV, mIf, mTup, mLst, mList, asB_b, allS_leaf, wipe_n, wipe_c, wset_z, wset_s, tYesM, oAsg, gPut, gTp, gsCons, gsNil, mSeq, seq_l, seq_t, bind_leaf, bind_fail, lineOk_1, lineOk_2, lineOk_3, mPeek_z, mPeek_s, mVar_z, mVar_s, put_z, put_s, opAdd_i, opSub_i, opNeg_i, cLt_i, cLe_i, cGt_i, cGe_i, cEq_i, cNe_i, fAbs_i, fInt_i, fLen_t, fLen_l, ix0, ix1, Bool.false_eq_true, Bool.not_true, Bool.not_false, List.length_cons, List.length_nil, List.map_cons, List.map_nil, List.cons_append, List.nil_append, List.replicate, Nat.reduceAdd, Nat.reduceSub, Nat.zero_add, if_true, if_false, ↓reduceIte, k1, k2, e1, e6, c1, a1, c2, a2, Bool.true_and]
      · rw [Bool.eq_false_iff.mpr hall] at a1 ⊢
        clear hn hall e sq hl h6
        generalize x :: r = zs at *
        generalize (zs.length : Int) = m at *
        unfold f_law_is_look b_law_is_look
        generalize (zs.map fun x => D.bl (isLotB x)) = ys at *
        generalize mk b zs = v at *
        generalize f_law_is_list = f1 at *
        generalize fLen = f2 at *
        generalize cLe = f3 at *
        generalize fAll = f4 at *
        generalize mLc = f5 at *
        simp only [mDef, En.start, oSeq, oIf, oRet, oSet, oOwn, putOwn_z, putOwn_s, oPar, oNx, oFail, oEx, _root_.R.m2, _root_.R.m1, _root_.R.mA, aCons, aNil, _root_.R.mB, _root_.R.mC, mCh, _root_.R.mT, mNot, mAnd, mOr, mAndV, mOrV, mNotV, mIf, mTup, mLst, mList, asB_b, allS_leaf, wipe_n, wipe_c, wset_z, wset_s, tYesM, oAsg, gPut, gTp, gsCons, gsNil, mSeq, seq_l, seq_t, bind_leaf, bind_fail, lineOk_1, lineOk_2, lineOk_3, mPeek_z, mPeek_s, mVar_z, mVar_s, put_z, put_s, opAdd_i, opSub_i, opNeg_i, cLt_i, cLe_i, cGt_i, cGe_i, cEq_i, cNe_i, fAbs_i, fInt_i, fLen_t, fLen_l, ix0, ix1, Bool.false_eq_true, Bool.not_true, Bool.not_false, List.length_cons, List.length_nil, List.map_cons, List.map_nil, List.cons_append, List.nil_append, List.replicate, Nat.reduceAdd, Nat.reduceSub, Nat.zero_add, if_true, if_false, ↓reduceIte, k1, k2, e1, e6, c1, a1, Bool.false_and]
    · rw [decide_eq_false h6] at e6 ⊢
      rw [Bool.and_false]
      clear hn e sq hl h6 c1 a1
      generalize x :: r = zs at *
      generalize (zs.length : Int) = m at *
      unfold f_law_is_look b_law_is_look
      generalize mk b zs = v at *
      generalize f_law_is_list = f1 at *
      generalize fLen = f2 at *
      generalize cLe = f3 at *
      simp only [mDef, En.start, oSeq, oIf, oRet, oSet, oOwn, putOwn_z, putOwn_s, oPar, oNx, oFail, oEx, _root_.R.m2, _root_.R.m1, _root_.R.mA, aCons, aNil, _root_.R.mB, _root_.R.mC, mCh, _root_.R.mT, mNot, mAnd, mOr, mAndV, mOrV, mNotV, mIf, mTup, mLst, mList, asB_b, allS_leaf, wipe_n, wipe_c, wset_z, wset_s, tYesM, oAsg, gPut, gTp, gsCons, gsNil, mSeq, seq_l, seq_t, bind_leaf, bind_fail, lineOk_1, lineOk_2, lineOk_3, mPeek_z, mPeek_s, mVar_z, mVar_s, put_z, put_s, opAdd_i, opSub_i, opNeg_i, cLt_i, cLe_i, cGt_i, cGe_i, cEq_i, cNe_i, fAbs_i, fInt_i, fLen_t, fLen_l, ix0, ix1, Bool.false_eq_true, Bool.not_true, Bool.not_false, List.length_cons, List.length_nil, List.map_cons, List.map_nil, List.cons_append, List.nil_append, List.replicate, Nat.reduceAdd, Nat.reduceSub, Nat.zero_add, if_true, if_false, ↓reduceIte, k1, k2, e1, e6]
theorem look_leaf {d : D} (h : leafB d = true) : f_is_look [d] = .leaf (.bl false) ∧ f_law_is_look [d] = .leaf (.bl false) := by
  have k1 := are_lots_leaf (e := .fn 1) h
  have k2 := lawlist_leaf h
  refine ⟨?_, ?_⟩
  · unfold f_is_look b_is_look f_is_look_of b_is_look_of
    generalize f_are_lots = f1 at *
    simp only [mDef, En.start, oSeq, oIf, oRet, oSet, oOwn, putOwn_z, putOwn_s, oPar, oNx, oFail, oEx, _root_.R.m2, _root_.R.m1, _root_.R.mA, aCons, aNil, _root_.R.mB, _root_.R.mC, mCh, _root_.R.mT, mNot, mAnd, mOr, mAndV, mOrV, mNotV, mIf, mTup, mLst, mList, asB_b, allS_leaf, wipe_n, wipe_c, wset_z, wset_s, tYesM, oAsg, gPut, gTp, gsCons, gsNil, mSeq, seq_l, seq_t, bind_leaf, bind_fail, lineOk_1, lineOk_2, lineOk_3, mPeek_z, mPeek_s, mVar_z, mVar_s, put_z, put_s, opAdd_i, opSub_i, opNeg_i, cLt_i, cLe_i, cGt_i, cGe_i, cEq_i, cNe_i, fAbs_i, fInt_i, fLen_t, fLen_l, ix0, ix1, Bool.false_eq_true, Bool.not_true, Bool.not_false, List.length_cons, List.length_nil, List.map_cons, List.map_nil, List.cons_append, List.nil_append, List.replicate, Nat.reduceAdd, Nat.reduceSub, Nat.zero_add, if_true, if_false, ↓reduceIte, k1]
  · unfold f_law_is_look b_law_is_look
    generalize f_law_is_list = f1 at *
    simp only [mDef, En.start, oSeq, oIf, oRet, oSet, oOwn, putOwn_z, putOwn_s, oPar, oNx, oFail, oEx, _root_.R.m2, _root_.R.m1, _root_.R.mA, aCons, aNil, _root_.R.mB, _root_.R.mC, mCh, _root_.R.mT, mNot, mAnd, mOr, mAndV, mOrV, mNotV, mIf, mTup, mLst, mList, asB_b, allS_leaf, wipe_n, wipe_c, wset_z, wset_s, tYesM, oAsg, gPut, gTp, gsCons, gsNil, mSeq, seq_l, seq_t, bind_leaf, bind_fail, lineOk_1, lineOk_2, lineOk_3, mPeek_z, mPeek_s, mVar_z, mVar_s, put_z, put_s, opAdd_i, opSub_i, opNeg_i, cLt_i, cLe_i, cGt_i, cGe_i, cEq_i, cNe_i, fAbs_i, fInt_i, fLen_t, fLen_l, ix0, ix1, Bool.false_eq_true, Bool.not_true, Bool.not_false, List.length_cons, List.length_nil, List.map_cons, List.map_nil, List.cons_append, List.nil_append, List.replicate, Nat.reduceAdd, Nat.reduceSub, Nat.zero_add, if_true, if_false, ↓reduceIte, k2]
theorem va_mk {b : Bool} {xs : List D} (h : Va (mk b xs)) : xs.length ≤ 8 ∧ ∀ x ∈ xs, bnd [5, 5, 3, 2] x = true := bnd_mk.mp h
theorem look_eq {d : D} (h : Va d) : ∃ b, f_is_look [d] = .leaf (.bl b) ∧ f_law_is_look [d] = .leaf (.bl b) := by
  rcases bnd_or h with h1 | ⟨n, ms, b, xs, e, rfl⟩
  · exact ⟨false, look_leaf h1⟩
  · obtain ⟨h1, h2⟩ := va_mk h
    have hn : ∀ x ∈ xs, numD (8 + 3) x = true := fun x hx => num_bnd (by decide) (h2 x hx)
    exact ⟨_, look1 (by omega) hn, look2 (by omega) hn⟩
end Law

set_option maxRecDepth 100000
set_option linter.all false
namespace Law
open R PySem L2
local macro_rules | `(tactic| walk_at "ev") => `(tactic| simp only [mDef, En.start, oSeq, oIf, oRet, oSet, oOwn, putOwn_z, putOwn_s, oPar, oNx, oFail, oEx, m2, m1, mA, aCons, aNil, mB, mC, mCh, mT, mNot, mAnd, mOr, mAndV, mOrV, mNotV, mIf, mTup, mLst, mList, asB_b, allS_leaf, wipe_n, wipe_c, wset_z, wset_s, tYesM, oAsg, gPut, gTp, gsCons, gsNil, mSeq, seq_l, seq_t, bind_leaf, bind_fail, lineOk_1, lineOk_2, lineOk_3, mPeek_z, mPeek_s, mVar_z, mVar_s, put_z, put_s, opAdd_i, opSub_i, opNeg_i, cLt_i, cLe_i, cGt_i, cGe_i, cEq_i, cNe_i, fAbs_i, fInt_i, fLen_t, fLen_l, ix0, ix1, Bool.false_eq_true, Bool.not_true, Bool.not_false,
  List.length_cons, List.length_nil, List.map_cons, List.map_nil, List.cons_append, List.nil_append, List.replicate, Nat.reduceAdd, Nat.reduceSub, Nat.zero_add, if_true, if_false, ↓reduceIte])

/-! ### garbled looks -/
theorem zip_gen {α β : Type} {f : α → D} {g : β → D} : ∀ (P : List α) (Q : List β), zipD (P.map f) (Q.map g) = (P.zip Q).map fun x => .tup [f x.1, g x.2]
  | [], _ => by simp [zipD]
  | _ :: _, [] => by simp [zipD]
  | p :: P, q :: Q => by simp only [List.map_cons, zipD, List.zip_cons_cons, zip_gen P Q]
def dotR (P Q : List Rat) : Rat := ((P.zip Q).map fun x => x.1 * x.2).sum
theorem dot_sz {n1 n2 : Nat} {P Q : List Rat} (hP : ∀ q ∈ P, Sz n1 q) (hQ : ∀ q ∈ Q, Sz n2 q) : ∀ z ∈ (P.zip Q).map fun x => x.1 * x.2, Sz (n1 + n2) z := fun z hz => by
  obtain ⟨x, hx, rfl⟩ := List.mem_map.mp hz
  exact sz_mul (hP _ (List.of_mem_zip hx).1) (hQ _ (List.of_mem_zip hx).2)
theorem zip_len {α β : Type} {P : List α} {Q : List β} (h : P.length ≤ 8) : (P.zip Q).length ≤ 8 := by rw [List.length_zip]; omega
theorem psum_fr {x y : D} {P Q : List Rat} {n1 n2 : Nat} (sx : seqOf x = .leaf (P.map fr)) (sy : seqOf y = .leaf (Q.map fr)) (hP : ∀ q ∈ P, Sz n1 q) (hQ : ∀ q ∈ Q, Sz n2 q) (hl : P.length ≤ 8) (hb : 1 + 8 * (n1 + n2 + 1) ≤ 4000) :
    f_products_sum [x, y] = .leaf (fr (dotR P Q)) := by
  have c1 : mLc (mZip (mPeek 0) (mPeek 1)) [2, 3] (gTp 2 (gsCons (gPut 2) (gsCons (gPut 3) gsNil))) tYesM (mA f_multiply (aCons (mVar 2) (aCons (mVar 3) aNil))) [some ⟨false, x⟩, some ⟨false, y⟩, none, none] = .leaf ((P.zip Q).map fun z => fr (z.1 * z.2)) := by
    refine mLc_at (L := P.zip Q) (dx := fun z => .tup [fr z.1, fr z.2]) (by rw [zip_at (d := x) (d' := y) (by simp only [mDef, En.start, oSeq, oIf, oRet, oSet, oOwn, putOwn_z, putOwn_s, oPar, oNx, oFail, oEx, _root_.R.m2, _root_.R.m1, _root_.R.mA, aCons, aNil, _root_.R.mB, _root_.R.mC, mCh, _root_.R.mT, mNot, mAnd, mOr, mAndV, mOrV, mNotV, mIf, mTup, mLst, mList, asB_b, allS_leaf, wipe_n, wipe_c, wset_z, wset_s, tYesM, oAsg, gPut, gTp, gsCons, gsNil, mSeq, seq_l, seq_t, bind_leaf, bind_fail, lineOk_1, lineOk_2, lineOk_3, mPeek_z, mPeek_s, mVar_z, mVar_s, put_z, put_s, opAdd_i, opSub_i, opNeg_i, cLt_i, cLe_i, cGt_i, cGe_i, cEq_i, cNe_i, fAbs_i, fInt_i, fLen_t, fLen_l, ix0, ix1, Bool.false_eq_true, Bool.not_true, Bool.not_false, List.length_cons, List.length_nil, List.map_cons, List.map_nil, List.cons_append, List.nil_append, List.replicate, Nat.reduceAdd, Nat.reduceSub, Nat.zero_add, if_true, if_false, ↓reduceIte]) (by simp only [mDef, En.start, oSeq, oIf, oRet, oSet, oOwn, putOwn_z, putOwn_s, oPar, oNx, oFail, oEx, _root_.R.m2, _root_.R.m1, _root_.R.mA, aCons, aNil, _root_.R.mB, _root_.R.mC, mCh, _root_.R.mT, mNot, mAnd, mOr, mAndV, mOrV, mNotV, mIf, mTup, mLst, mList, asB_b, allS_leaf, wipe_n, wipe_c, wset_z, wset_s, tYesM, oAsg, gPut, gTp, gsCons, gsNil, mSeq, seq_l, seq_t, bind_leaf, bind_fail, lineOk_1, lineOk_2, lineOk_3, mPeek_z, mPeek_s, mVar_z, mVar_s, put_z, put_s, opAdd_i, opSub_i, opNeg_i, cLt_i, cLe_i, cGt_i, cGe_i, cEq_i, cNe_i, fAbs_i, fInt_i, fLen_t, fLen_l, ix0, ix1, Bool.false_eq_true, Bool.not_true, Bool.not_false, List.length_cons, List.length_nil, List.map_cons, List.map_nil, List.cons_append, List.nil_append, List.replicate, Nat.reduceAdd, Nat.reduceSub, Nat.zero_add, if_true, if_false, ↓reduceIte]) sx sy, zip_gen]) (by have := zip_len (Q := Q) hl; omega) fun z hz => ⟨[some ⟨false, x⟩, some ⟨false, y⟩, some ⟨false, fr z.1⟩, some ⟨false, fr z.2⟩], by walk_at "ev", rfl, ?_⟩
    have k := multiply_fr ((hP _ (List.of_mem_zip hz).1).mono (m := 4000) (by omega)) ((hQ _ (List.of_mem_zip hz).2).mono (m := 4000) (by omega))
    generalize f_multiply = fm at *
    simp only [mDef, En.start, oSeq, oIf, oRet, oSet, oOwn, putOwn_z, putOwn_s, oPar, oNx, oFail, oEx, _root_.R.m2, _root_.R.m1, _root_.R.mA, aCons, aNil, _root_.R.mB, _root_.R.mC, mCh, _root_.R.mT, mNot, mAnd, mOr, mAndV, mOrV, mNotV, mIf, mTup, mLst, mList, asB_b, allS_leaf, wipe_n, wipe_c, wset_z, wset_s, tYesM, oAsg, gPut, gTp, gsCons, gsNil, mSeq, seq_l, seq_t, bind_leaf, bind_fail, lineOk_1, lineOk_2, lineOk_3, mPeek_z, mPeek_s, mVar_z, mVar_s, put_z, put_s, opAdd_i, opSub_i, opNeg_i, cLt_i, cLe_i, cGt_i, cGe_i, cEq_i, cNe_i, fAbs_i, fInt_i, fLen_t, fLen_l, ix0, ix1, Bool.false_eq_true, Bool.not_true, Bool.not_false, List.length_cons, List.length_nil, List.map_cons, List.map_nil, List.cons_append, List.nil_append, List.replicate, Nat.reduceAdd, Nat.reduceSub, Nat.zero_add, if_true, if_false, ↓reduceIte, k]
  have t1 := total_l ((P.zip Q).map fun z => z.1 * z.2) (dot_sz hP hQ) (by
    rw [List.length_map]
    have := zip_len (Q := Q) hl
    have := Nat.mul_le_mul_right (n1 + n2 + 1) this
    omega) (by omega)
  rw [List.map_map] at t1
  have t1 : f_total [.lst ((P.zip Q).map fun z => fr (z.1 * z.2))] = .leaf (fr (dotR P Q)) := t1
  unfold f_products_sum b_products_sum
  generalize f_total = ft at *
  generalize mLc = ml at *
  generalize ((P.zip Q).map fun z => fr (z.1 * z.2)) = zs at *
  simp only [mDef, En.start, oSeq, oIf, oRet, oSet, oOwn, putOwn_z, putOwn_s, oPar, oNx, oFail, oEx, _root_.R.m2, _root_.R.m1, _root_.R.mA, aCons, aNil, _root_.R.mB, _root_.R.mC, mCh, _root_.R.mT, mNot, mAnd, mOr, mAndV, mOrV, mNotV, mIf, mTup, mLst, mList, asB_b, allS_leaf, wipe_n, wipe_c, wset_z, wset_s, tYesM, oAsg, gPut, gTp, gsCons, gsNil, mSeq, seq_l, seq_t, bind_leaf, bind_fail, lineOk_1, lineOk_2, lineOk_3, mPeek_z, mPeek_s, mVar_z, mVar_s, put_z, put_s, opAdd_i, opSub_i, opNeg_i, cLt_i, cLe_i, cGt_i, cGe_i, cEq_i, cNe_i, fAbs_i, fInt_i, fLen_t, fLen_l, ix0, ix1, Bool.false_eq_true, Bool.not_true, Bool.not_false, List.length_cons, List.length_nil, List.map_cons, List.map_nil, List.cons_append, List.nil_append, List.replicate, Nat.reduceAdd, Nat.reduceSub, Nat.zero_add, if_true, if_false, ↓reduceIte, c1, t1]
def lookD (L : List (List Rat)) : D := .lst (L.map lotD)
def gv (l : List Rat) (T : List (List Rat)) (j : Nat) : Rat := dotR l (T.map fun t => t.getD j 0)
def garb (L T : List (List Rat)) (n : Nat) : List (List Rat) := L.map fun l => (List.range n).map (gv l T)
/-- a table: rows of so many small numbers -/
structure Tb (n : Nat) (T : List (List Rat)) : Prop where
  l1 : 1 ≤ T.length
  l8 : T.length ≤ 8
  rows : ∀ t ∈ T, t.length = n ∧ ∀ q ∈ t, Sz 20 q
/-- rows of a look -/
structure Rw (L : List (List Rat)) : Prop where
  l8 : L.length ≤ 8
  rows : ∀ l ∈ L, l.length ≤ 8 ∧ ∀ q ∈ l, Sz 40 q
theorem lot_ix {t : List Rat} {j : Nat} (h : j < t.length) : opIx (lotD t) (.int (j : Int)) = .leaf (fr (t.getD j 0)) := by
  have := ix_mk (b := false) (xs := t.map fr) (k := j) (by rw [List.length_map]; exact h)
  rw [show mk false (t.map fr) = lotD t from rfl] at this
  rw [this, List.getElem_map, List.getD_eq_getElem?_getD, List.getElem?_eq_getElem h]
  rfl
theorem getD_sz {n j : Nat} {t : List Rat} (h1 : 1 ≤ n) (h : ∀ q ∈ t, Sz n q) : Sz n (t.getD j 0) := by
  rw [List.getD_eq_getElem?_getD]
  by_cases hj : j < t.length
  · rw [List.getElem?_eq_getElem hj]
    exact h _ (List.getElem_mem hj)
  · rw [List.getElem?_eq_none (by omega)]
    exact sz_zero n h1
theorem mixed_fr {n : Nat} {b : Bool} {l : List Rat} {T : List (List Rat)} (hT : Tb n T) (n8 : n ≤ 8) (hl : l.length ≤ 8) (hq : ∀ q ∈ l, Sz 40 q) : f_mixed_of [lotD l, mk b (T.map lotD)] = .leaf (lotD ((List.range n).map (gv l T))) := by
  have sq := seq_mk b (T.map lotD)
  obtain ⟨t0, T', rfl⟩ : ∃ t0 T', T = t0 :: T' := by
    cases T with
    | nil => have := hT.l1; simp at this
    | cons a r => exact ⟨a, r, rfl⟩
  have h0 := (hT.rows t0 List.mem_cons_self).1
  have ix : opIx (mk b ((t0 :: T').map lotD)) (.int 0) = .leaf (lotD t0) := ix_mk (b := b) (xs := (t0 :: T').map lotD) (k := 0) (by simp)
  have kl : fLen [lotD t0] = .leaf (.int (n : Int)) := by unfold lotD; rw [fLen_t, List.length_map, h0]
  generalize hTT : t0 :: T' = T at *
  have c1 : mLc (mRange1 (mA fLen (aCons (m2 opIx (mPeek 1) (fun _ => .leaf (.int 0))) aNil))) [2] (gPut 2) tYesM (mA f_products_sum (aCons (mVar 0) (aCons (mList (mLc (mSeq (mPeek 1)) [3] (gPut 3) tYesM (m2 opIx (mPeek 3) (mPeek 2)))) aNil))) [some ⟨false, lotD l⟩, some ⟨false, mk b (T.map lotD)⟩, none, none] = .leaf ((List.range n).map fun j => fr (gv l T j)) := by
    refine mLc_at (L := List.range n) (dx := fun i : Nat => .int (i : Int)) (range1_at (by
      generalize mk b (T.map lotD) = v at *
      generalize opIx = oi at *
      generalize fLen = fl at *
      simp only [mDef, En.start, oSeq, oIf, oRet, oSet, oOwn, putOwn_z, putOwn_s, oPar, oNx, oFail, oEx, _root_.R.m2, _root_.R.m1, _root_.R.mA, aCons, aNil, _root_.R.mB, _root_.R.mC, mCh, _root_.R.mT, mNot, mAnd, mOr, mAndV, mOrV, mNotV, mIf, mTup, mLst, mList, asB_b, allS_leaf, wipe_n, wipe_c, wset_z, wset_s, tYesM, oAsg, gPut, gTp, gsCons, gsNil, mSeq, seq_l, seq_t, bind_leaf, bind_fail, lineOk_1, lineOk_2, lineOk_3, mPeek_z, mPeek_s, mVar_z, mVar_s, put_z, put_s, opAdd_i, opSub_i, opNeg_i, cLt_i, cLe_i, cGt_i, cGe_i, cEq_i, cNe_i, fAbs_i, fInt_i, fLen_t, fLen_l, ix0, ix1, Bool.false_eq_true, Bool.not_true, Bool.not_false, List.length_cons, List.length_nil, List.map_cons, List.map_nil, List.cons_append, List.nil_append, List.replicate, Nat.reduceAdd, Nat.reduceSub, Nat.zero_add, if_true, if_false, ↓reduceIte, ix, kl]) (by omega)) (by rw [List.length_range]; omega) fun j hj => ⟨[some ⟨false, lotD l⟩, some ⟨false, mk b (T.map lotD)⟩, some ⟨false, .int (j : Int)⟩, none], by walk_at "ev", rfl, ?_⟩
    have hj : j < n := List.mem_range.mp hj
    have c2 : mLc (mSeq (mPeek 1)) [3] (gPut 3) tYesM (m2 opIx (mPeek 3) (mPeek 2)) [some ⟨false, lotD l⟩, some ⟨false, mk b (T.map lotD)⟩, some ⟨false, .int (j : Int)⟩, none] = .leaf (T.map fun t => fr (t.getD j 0)) := by
      refine mLc_at (L := T) (dx := lotD) (by simp only [mDef, En.start, oSeq, oIf, oRet, oSet, oOwn, putOwn_z, putOwn_s, oPar, oNx, oFail, oEx, _root_.R.m2, _root_.R.m1, _root_.R.mA, aCons, aNil, _root_.R.mB, _root_.R.mC, mCh, _root_.R.mT, mNot, mAnd, mOr, mAndV, mOrV, mNotV, mIf, mTup, mLst, mList, asB_b, allS_leaf, wipe_n, wipe_c, wset_z, wset_s, tYesM, oAsg, gPut, gTp, gsCons, gsNil, mSeq, seq_l, seq_t, bind_leaf, bind_fail, lineOk_1, lineOk_2, lineOk_3, mPeek_z, mPeek_s, mVar_z, mVar_s, put_z, put_s, opAdd_i, opSub_i, opNeg_i, cLt_i, cLe_i, cGt_i, cGe_i, cEq_i, cNe_i, fAbs_i, fInt_i, fLen_t, fLen_l, ix0, ix1, Bool.false_eq_true, Bool.not_true, Bool.not_false, List.length_cons, List.length_nil, List.map_cons, List.map_nil, List.cons_append, List.nil_append, List.replicate, Nat.reduceAdd, Nat.reduceSub, Nat.zero_add, if_true, if_false, ↓reduceIte, sq]) (by have := hT.l8; omega) fun t ht => ⟨[some ⟨false, lotD l⟩, some ⟨false, mk b (T.map lotD)⟩, some ⟨false, .int (j : Int)⟩, some ⟨false, lotD t⟩], by walk_at "ev", rfl, ?_⟩
      have k := lot_ix (t := t) (j := j) (by rw [(hT.rows t ht).1]; exact hj)
      generalize opIx = oi at *
      simp only [mDef, En.start, oSeq, oIf, oRet, oSet, oOwn, putOwn_z, putOwn_s, oPar, oNx, oFail, oEx, _root_.R.m2, _root_.R.m1, _root_.R.mA, aCons, aNil, _root_.R.mB, _root_.R.mC, mCh, _root_.R.mT, mNot, mAnd, mOr, mAndV, mOrV, mNotV, mIf, mTup, mLst, mList, asB_b, allS_leaf, wipe_n, wipe_c, wset_z, wset_s, tYesM, oAsg, gPut, gTp, gsCons, gsNil, mSeq, seq_l, seq_t, bind_leaf, bind_fail, lineOk_1, lineOk_2, lineOk_3, mPeek_z, mPeek_s, mVar_z, mVar_s, put_z, put_s, opAdd_i, opSub_i, opNeg_i, cLt_i, cLe_i, cGt_i, cGe_i, cEq_i, cNe_i, fAbs_i, fInt_i, fLen_t, fLen_l, ix0, ix1, Bool.false_eq_true, Bool.not_true, Bool.not_false, List.length_cons, List.length_nil, List.map_cons, List.map_nil, List.cons_append, List.nil_append, List.replicate, Nat.reduceAdd, Nat.reduceSub, Nat.zero_add, if_true, if_false, ↓reduceIte, k]
    have k := psum_fr (x := lotD l) (y := .lst (T.map fun t => fr (t.getD j 0))) (P := l) (Q := T.map fun t => t.getD j 0) (n1 := 40) (n2 := 20) (seq_t _) (by rw [List.map_map]; exact seq_l _) hq (fun q hq => by
      obtain ⟨t, ht, rfl⟩ := List.mem_map.mp hq
      exact getD_sz (by omega) (hT.rows t ht).2) hl (by omega)
    generalize f_products_sum = fp at *
    generalize mLc = ml at *
    generalize (T.map fun t => fr (t.getD j 0)) = col at *
    simp only [mDef, En.start, oSeq, oIf, oRet, oSet, oOwn, putOwn_z, putOwn_s, oPar, oNx, oFail, oEx, _root_.R.m2, _root_.R.m1, _root_.R.mA, aCons, aNil, _root_.R.mB, _root_.R.mC, mCh, _root_.R.mT, mNot, mAnd, mOr, mAndV, mOrV, mNotV, mIf, mTup, mLst, mList, asB_b, allS_leaf, wipe_n, wipe_c, wset_z, wset_s, tYesM, oAsg, gPut, gTp, gsCons, gsNil, mSeq, seq_l, seq_t, bind_leaf, bind_fail, lineOk_1, lineOk_2, lineOk_3, mPeek_z, mPeek_s, mVar_z, mVar_s, put_z, put_s, opAdd_i, opSub_i, opNeg_i, cLt_i, cLe_i, cGt_i, cGe_i, cEq_i, cNe_i, fAbs_i, fInt_i, fLen_t, fLen_l, ix0, ix1, Bool.false_eq_true, Bool.not_true, Bool.not_false, List.length_cons, List.length_nil, List.map_cons, List.map_nil, List.cons_append, List.nil_append, List.replicate, Nat.reduceAdd, Nat.reduceSub, Nat.zero_add, if_true, if_false, ↓reduceIte, c2, k]
    rfl
  have ft : fTuple [.lst ((List.range n).map fun j => fr (gv l T j))] = .leaf (lotD ((List.range n).map (gv l T))) := by
    show Tree.leaf (D.tup _) = _
    unfold lotD
    rw [List.map_map]
    rfl
  unfold f_mixed_of b_mixed_of
  generalize fTuple = fu at *
  generalize mLc = ml at *
  generalize ((List.range n).map fun j => fr (gv l T j)) = zs at *
  simp only [mDef, En.start, oSeq, oIf, oRet, oSet, oOwn, putOwn_z, putOwn_s, oPar, oNx, oFail, oEx, _root_.R.m2, _root_.R.m1, _root_.R.mA, aCons, aNil, _root_.R.mB, _root_.R.mC, mCh, _root_.R.mT, mNot, mAnd, mOr, mAndV, mOrV, mNotV, mIf, mTup, mLst, mList, asB_b, allS_leaf, wipe_n, wipe_c, wset_z, wset_s, tYesM, oAsg, gPut, gTp, gsCons, gsNil, mSeq, seq_l, seq_t, bind_leaf, bind_fail, lineOk_1, lineOk_2, lineOk_3, mPeek_z, mPeek_s, mVar_z, mVar_s, put_z, put_s, opAdd_i, opSub_i, opNeg_i, cLt_i, cLe_i, cGt_i, cGe_i, cEq_i, cNe_i, fAbs_i, fInt_i, fLen_t, fLen_l, ix0, ix1, Bool.false_eq_true, Bool.not_true, Bool.not_false, List.length_cons, List.length_nil, List.map_cons, List.map_nil, List.cons_append, List.nil_append, List.replicate, Nat.reduceAdd, Nat.reduceSub, Nat.zero_add, if_true, if_false, ↓reduceIte, c1, ft]
theorem garbled_fr {n : Nat} {b : Bool} {L T : List (List Rat)} (hT : Tb n T) (n8 : n ≤ 8) (hL : Rw L) : f_garbled_of [lookD L, mk b (T.map lotD)] = .leaf (lookD (garb L T n)) := by
  have c1 : mLc (mSeq (mPeek 0)) [2] (gPut 2) tYesM (mA f_mixed_of (aCons (mVar 2) (aCons (mVar 1) aNil))) [some ⟨false, lookD L⟩, some ⟨false, mk b (T.map lotD)⟩, none] = .leaf (L.map fun l => lotD ((List.range n).map (gv l T))) := by
    refine mLc_at (L := L) (dx := lotD) (by unfold lookD; simp only [mDef, En.start, oSeq, oIf, oRet, oSet, oOwn, putOwn_z, putOwn_s, oPar, oNx, oFail, oEx, _root_.R.m2, _root_.R.m1, _root_.R.mA, aCons, aNil, _root_.R.mB, _root_.R.mC, mCh, _root_.R.mT, mNot, mAnd, mOr, mAndV, mOrV, mNotV, mIf, mTup, mLst, mList, asB_b, allS_leaf, wipe_n, wipe_c, wset_z, wset_s, tYesM, oAsg, gPut, gTp, gsCons, gsNil, mSeq, seq_l, seq_t, bind_leaf, bind_fail, lineOk_1, lineOk_2, lineOk_3, mPeek_z, mPeek_s, mVar_z, mVar_s, put_z, put_s, opAdd_i, opSub_i, opNeg_i, cLt_i, cLe_i, cGt_i, cGe_i, cEq_i, cNe_i, fAbs_i, fInt_i, fLen_t, fLen_l, ix0, ix1, Bool.false_eq_true, Bool.not_true, Bool.not_false, List.length_cons, List.length_nil, List.map_cons, List.map_nil, List.cons_append, List.nil_append, List.replicate, Nat.reduceAdd, Nat.reduceSub, Nat.zero_add, if_true, if_false, ↓reduceIte]) (by have := hL.l8; omega) fun l hl => ⟨[some ⟨false, lookD L⟩, some ⟨false, mk b (T.map lotD)⟩, some ⟨false, lotD l⟩], by walk_at "ev", rfl, ?_⟩
    have k := mixed_fr (b := b) hT n8 (hL.rows l hl).1 (hL.rows l hl).2
    generalize f_mixed_of = fm at *
    simp only [mDef, En.start, oSeq, oIf, oRet, oSet, oOwn, putOwn_z, putOwn_s, oPar, oNx, oFail, oEx, _root_.R.m2, _root_.R.m1, _root_.R.mA, aCons, aNil, _root_.R.mB, _root_.R.mC, mCh, _root_.R.mT, mNot, mAnd, mOr, mAndV, mOrV, mNotV, mIf, mTup, mLst, mList, asB_b, allS_leaf, wipe_n, wipe_c, wset_z, wset_s, tYesM, oAsg, gPut, gTp, gsCons, gsNil, mSeq, seq_l, seq_t, bind_leaf, bind_fail, lineOk_1, lineOk_2, lineOk_3, mPeek_z, mPeek_s, mVar_z, mVar_s, put_z, put_s, opAdd_i, opSub_i, opNeg_i, cLt_i, cLe_i, cGt_i, cGe_i, cEq_i, cNe_i, fAbs_i, fInt_i, fLen_t, fLen_l, ix0, ix1, Bool.false_eq_true, Bool.not_true, Bool.not_false, List.length_cons, List.length_nil, List.map_cons, List.map_nil, List.cons_append, List.nil_append, List.replicate, Nat.reduceAdd, Nat.reduceSub, Nat.zero_add, if_true, if_false, ↓reduceIte, k]
  have e : lookD (garb L T n) = .lst (L.map fun l => lotD ((List.range n).map (gv l T))) := by
    unfold lookD garb
    rw [List.map_map]
    rfl
  rw [e]
  unfold f_garbled_of b_garbled_of
  generalize mLc = ml at *
  generalize (L.map fun l => lotD ((List.range n).map (gv l T))) = zs at *
  simp only [mDef, En.start, oSeq, oIf, oRet, oSet, oOwn, putOwn_z, putOwn_s, oPar, oNx, oFail, oEx, _root_.R.m2, _root_.R.m1, _root_.R.mA, aCons, aNil, _root_.R.mB, _root_.R.mC, mCh, _root_.R.mT, mNot, mAnd, mOr, mAndV, mOrV, mNotV, mIf, mTup, mLst, mList, asB_b, allS_leaf, wipe_n, wipe_c, wset_z, wset_s, tYesM, oAsg, gPut, gTp, gsCons, gsNil, mSeq, seq_l, seq_t, bind_leaf, bind_fail, lineOk_1, lineOk_2, lineOk_3, mPeek_z, mPeek_s, mVar_z, mVar_s, put_z, put_s, opAdd_i, opSub_i, opNeg_i, cLt_i, cLe_i, cGt_i, cGe_i, cEq_i, cNe_i, fAbs_i, fInt_i, fLen_t, fLen_l, ix0, ix1, Bool.false_eq_true, Bool.not_true, Bool.not_false, List.length_cons, List.length_nil, List.map_cons, List.map_nil, List.cons_append, List.nil_append, List.replicate, Nat.reduceAdd, Nat.reduceSub, Nat.zero_add, if_true, if_false, ↓reduceIte, c1]
/-! the law's -/
theorem app_2 {v : D} {me : En → Tree D} {a b c d e f : Option Slot} {ds : List D} (h : me [a, b, some ⟨true, .lst ds⟩, c, d, e, f] = .leaf v) (hl : ds.length ≤ 100) : oApp 2 me [a, b, some ⟨true, .lst ds⟩, c, d, e, f] = .leaf (.nx [a, b, some ⟨true, .lst (ds ++ [v])⟩, c, d, e, f]) := by
  show ((me [a, b, some ⟨true, .lst ds⟩, c, d, e, f]).bind fun v => if ds.length < sizeLine then Tree.leaf (Out.nx [a, b, some ⟨true, .lst (ds ++ [v])⟩, c, d, e, f]) else .fail) = _
  rw [h, bind_leaf, if_pos (Nat.lt_of_le_of_lt hl (by decide))]
theorem lrow_fr {n : Nat} {l : List Rat} {T : List (List Rat)} (hT : Tb n T) (n8 : n ≤ 8) (hl : l.length ≤ 8) (hq : ∀ q ∈ l, Sz 40 q) {x y : Option Slot} :
    (mA fTuple (aCons (mList (mLc (mRange1 (mA fLen (aCons (m2 opIx (mPeek 1) (fun _ => .leaf (.int 0))) aNil))) [4] (gPut 4) tYesM (mA f_law_sum (aCons (mList (mLc (mZip (mPeek 3) (mPeek 1)) [5, 6] (gTp 2 (gsCons (gPut 5) (gsCons (gPut 6) gsNil))) tYesM (mA f_law_times (aCons (mVar 5) (aCons (m2 opIx (mPeek 6) (mPeek 4)) aNil))))) aNil)))) aNil)) [x, some ⟨false, .lst (T.map lotD)⟩, y, some ⟨false, lotD l⟩, none, none, none] = .leaf (lotD ((List.range n).map (gv l T))) := by
  obtain ⟨t0, T', rfl⟩ : ∃ t0 T', T = t0 :: T' := by
    cases T with
    | nil => have := hT.l1; simp at this
    | cons a r => exact ⟨a, r, rfl⟩
  have h0 := (hT.rows t0 List.mem_cons_self).1
  have ix : opIx (.lst ((t0 :: T').map lotD)) (.int 0) = .leaf (lotD t0) := ix_mk (b := true) (xs := (t0 :: T').map lotD) (k := 0) (by simp)
  have kl : fLen [lotD t0] = .leaf (.int (n : Int)) := by unfold lotD; rw [fLen_t, List.length_map, h0]
  generalize hTT : t0 :: T' = T at *
  have c1 : mLc (mRange1 (mA fLen (aCons (m2 opIx (mPeek 1) (fun _ => .leaf (.int 0))) aNil))) [4] (gPut 4) tYesM (mA f_law_sum (aCons (mList (mLc (mZip (mPeek 3) (mPeek 1)) [5, 6] (gTp 2 (gsCons (gPut 5) (gsCons (gPut 6) gsNil))) tYesM (mA f_law_times (aCons (mVar 5) (aCons (m2 opIx (mPeek 6) (mPeek 4)) aNil))))) aNil)) [x, some ⟨false, .lst (T.map lotD)⟩, y, some ⟨false, lotD l⟩, none, none, none] = .leaf ((List.range n).map fun j => fr (gv l T j)) := by
    refine mLc_at (L := List.range n) (dx := fun i : Nat => .int (i : Int)) (range1_at (by
      generalize D.lst (T.map lotD) = v at *
      generalize opIx = oi at *
      generalize fLen = fl at *
      simp only [mDef, En.start, oSeq, oIf, oRet, oSet, oOwn, putOwn_z, putOwn_s, oPar, oNx, oFail, oEx, _root_.R.m2, _root_.R.m1, _root_.R.mA, aCons, aNil, _root_.R.mB, _root_.R.mC, mCh, _root_.R.mT, mNot, mAnd, mOr, mAndV, mOrV, mNotV, mIf, mTup, mLst, mList, asB_b, allS_leaf, wipe_n, wipe_c, wset_z, wset_s, tYesM, oAsg, gPut, gTp, gsCons, gsNil, mSeq, seq_l, seq_t, bind_leaf, bind_fail, lineOk_1, lineOk_2, lineOk_3, mPeek_z, mPeek_s, mVar_z, mVar_s, put_z, put_s, opAdd_i, opSub_i, opNeg_i, cLt_i, cLe_i, cGt_i, cGe_i, cEq_i, cNe_i, fAbs_i, fInt_i, fLen_t, fLen_l, ix0, ix1, Bool.false_eq_true, Bool.not_true, Bool.not_false, List.length_cons, List.length_nil, List.map_cons, List.map_nil, List.cons_append, List.nil_append, List.replicate, Nat.reduceAdd, Nat.reduceSub, Nat.zero_add, if_true, if_false, ↓reduceIte, ix, kl]) (by omega)) (by rw [List.length_range]; omega) fun j hj => ⟨[x, some ⟨false, .lst (T.map lotD)⟩, y, some ⟨false, lotD l⟩, some ⟨false, .int (j : Int)⟩, none, none], by walk_at "ev", rfl, ?_⟩
    have hj : j < n := List.mem_range.mp hj
    have sz : ∀ z ∈ (l.zip T).map fun z => z.1 * z.2.getD j 0, Sz 60 z := fun z hz => by
      obtain ⟨w, hw, rfl⟩ := List.mem_map.mp hz
      exact sz_mul (hq _ (List.of_mem_zip hw).1) (getD_sz (by omega) (hT.rows _ (List.of_mem_zip hw).2).2)
    have c2 : mLc (mZip (mPeek 3) (mPeek 1)) [5, 6] (gTp 2 (gsCons (gPut 5) (gsCons (gPut 6) gsNil))) tYesM (mA f_law_times (aCons (mVar 5) (aCons (m2 opIx (mPeek 6) (mPeek 4)) aNil))) [x, some ⟨false, .lst (T.map lotD)⟩, y, some ⟨false, lotD l⟩, some ⟨false, .int (j : Int)⟩, none, none] = .leaf ((l.zip T).map fun z => fr (z.1 * z.2.getD j 0)) := by
      refine mLc_at (L := l.zip T) (dx := fun z => .tup [fr z.1, lotD z.2]) (by rw [zip_at (d := lotD l) (d' := .lst (T.map lotD)) (by simp only [mDef, En.start, oSeq, oIf, oRet, oSet, oOwn, putOwn_z, putOwn_s, oPar, oNx, oFail, oEx, _root_.R.m2, _root_.R.m1, _root_.R.mA, aCons, aNil, _root_.R.mB, _root_.R.mC, mCh, _root_.R.mT, mNot, mAnd, mOr, mAndV, mOrV, mNotV, mIf, mTup, mLst, mList, asB_b, allS_leaf, wipe_n, wipe_c, wset_z, wset_s, tYesM, oAsg, gPut, gTp, gsCons, gsNil, mSeq, seq_l, seq_t, bind_leaf, bind_fail, lineOk_1, lineOk_2, lineOk_3, mPeek_z, mPeek_s, mVar_z, mVar_s, put_z, put_s, opAdd_i, opSub_i, opNeg_i, cLt_i, cLe_i, cGt_i, cGe_i, cEq_i, cNe_i, fAbs_i, fInt_i, fLen_t, fLen_l, ix0, ix1, Bool.false_eq_true, Bool.not_true, Bool.not_false, List.length_cons, List.length_nil, List.map_cons, List.map_nil, List.cons_append, List.nil_append, List.replicate, Nat.reduceAdd, Nat.reduceSub, Nat.zero_add, if_true, if_false, ↓reduceIte]) (by simp only [mDef, En.start, oSeq, oIf, oRet, oSet, oOwn, putOwn_z, putOwn_s, oPar, oNx, oFail, oEx, _root_.R.m2, _root_.R.m1, _root_.R.mA, aCons, aNil, _root_.R.mB, _root_.R.mC, mCh, _root_.R.mT, mNot, mAnd, mOr, mAndV, mOrV, mNotV, mIf, mTup, mLst, mList, asB_b, allS_leaf, wipe_n, wipe_c, wset_z, wset_s, tYesM, oAsg, gPut, gTp, gsCons, gsNil, mSeq, seq_l, seq_t, bind_leaf, bind_fail, lineOk_1, lineOk_2, lineOk_3, mPeek_z, mPeek_s, mVar_z, mVar_s, put_z, put_s, opAdd_i, opSub_i, opNeg_i, cLt_i, cLe_i, cGt_i, cGe_i, cEq_i, cNe_i, fAbs_i, fInt_i, fLen_t, fLen_l, ix0, ix1, Bool.false_eq_true, Bool.not_true, Bool.not_false, List.length_cons, List.length_nil, List.map_cons, List.map_nil, List.cons_append, List.nil_append, List.replicate, Nat.reduceAdd, Nat.reduceSub, Nat.zero_add, if_true, if_false, ↓reduceIte]) (seq_t _) (seq_l _), zip_gen]) (by have := zip_len (Q := T) hl; omega) fun z hz => ⟨[x, some ⟨false, .lst (T.map lotD)⟩, y, some ⟨false, lotD l⟩, some ⟨false, .int (j : Int)⟩, some ⟨false, fr z.1⟩, some ⟨false, lotD z.2⟩], by walk_at "ev", rfl, ?_⟩
      have r := hT.rows _ (List.of_mem_zip hz).2
      have k := lot_ix (t := z.2) (j := j) (by rw [r.1]; exact hj)
      have k2 := law_times_fr ((hq _ (List.of_mem_zip hz).1).mono (m := 4000) (by omega)) ((getD_sz (j := j) (by omega) r.2).mono (m := 4000) (by omega))
      generalize opIx = oi at *
      generalize f_law_times = ft at *
      simp only [mDef, En.start, oSeq, oIf, oRet, oSet, oOwn, putOwn_z, putOwn_s, oPar, oNx, oFail, oEx, _root_.R.m2, _root_.R.m1, _root_.R.mA, aCons, aNil, _root_.R.mB, _root_.R.mC, mCh, _root_.R.mT, mNot, mAnd, mOr, mAndV, mOrV, mNotV, mIf, mTup, mLst, mList, asB_b, allS_leaf, wipe_n, wipe_c, wset_z, wset_s, tYesM, oAsg, gPut, gTp, gsCons, gsNil, mSeq, seq_l, seq_t, bind_leaf, bind_fail, lineOk_1, lineOk_2, lineOk_3, mPeek_z, mPeek_s, mVar_z, mVar_s, put_z, put_s, opAdd_i, opSub_i, opNeg_i, cLt_i, cLe_i, cGt_i, cGe_i, cEq_i, cNe_i, fAbs_i, fInt_i, fLen_t, fLen_l, ix0, ix1, Bool.false_eq_true, Bool.not_true, Bool.not_false, List.length_cons, List.length_nil, List.map_cons, List.map_nil, List.cons_append, List.nil_append, List.replicate, Nat.reduceAdd, Nat.reduceSub, Nat.zero_add, if_true, if_false, ↓reduceIte, k, k2]
    have k := law_sum_l ((l.zip T).map fun z => z.1 * z.2.getD j 0) sz (by
      rw [List.length_map]
      have := zip_len (Q := T) hl
      omega) (by omega)
    have e : ((l.zip T).map fun z => z.1 * z.2.getD j 0).sum = gv l T j := by
      unfold gv dotR
      rw [List.zip_map_right, List.map_map]
      rfl
    rw [List.map_map, e] at k
    have k : f_law_sum [.lst ((l.zip T).map fun z => fr (z.1 * z.2.getD j 0))] = .leaf (fr (gv l T j)) := k
    generalize f_law_sum = fp at *
    generalize mLc = ml at *
    generalize ((l.zip T).map fun z => fr (z.1 * z.2.getD j 0)) = col at *
    simp only [mDef, En.start, oSeq, oIf, oRet, oSet, oOwn, putOwn_z, putOwn_s, oPar, oNx, oFail, oEx, _root_.R.m2, _root_.R.m1, _root_.R.mA, aCons, aNil, _root_.R.mB, _root_.R.mC, mCh, _root_.R.mT, mNot, mAnd, mOr, mAndV, mOrV, mNotV, mIf, mTup, mLst, mList, asB_b, allS_leaf, wipe_n, wipe_c, wset_z, wset_s, tYesM, oAsg, gPut, gTp, gsCons, gsNil, mSeq, seq_l, seq_t, bind_leaf, bind_fail, lineOk_1, lineOk_2, lineOk_3, mPeek_z, mPeek_s, mVar_z, mVar_s, put_z, put_s, opAdd_i, opSub_i, opNeg_i, cLt_i, cLe_i, cGt_i, cGe_i, cEq_i, cNe_i, fAbs_i, fInt_i, fLen_t, fLen_l, ix0, ix1, Bool.false_eq_true, Bool.not_true, Bool.not_false, List.length_cons, List.length_nil, List.map_cons, List.map_nil, List.cons_append, List.nil_append, List.replicate, Nat.reduceAdd, Nat.reduceSub, Nat.zero_add, if_true, if_false, ↓reduceIte, c2, k]
  have ft : fTuple [.lst ((List.range n).map fun j => fr (gv l T j))] = .leaf (lotD ((List.range n).map (gv l T))) := by
    show Tree.leaf (D.tup _) = _
    unfold lotD
    rw [List.map_map]
    rfl
  generalize fTuple = fu at *
  generalize mLc = ml at *
  generalize ((List.range n).map fun j => fr (gv l T j)) = zs at *
  simp only [mDef, En.start, oSeq, oIf, oRet, oSet, oOwn, putOwn_z, putOwn_s, oPar, oNx, oFail, oEx, _root_.R.m2, _root_.R.m1, _root_.R.mA, aCons, aNil, _root_.R.mB, _root_.R.mC, mCh, _root_.R.mT, mNot, mAnd, mOr, mAndV, mOrV, mNotV, mIf, mTup, mLst, mList, asB_b, allS_leaf, wipe_n, wipe_c, wset_z, wset_s, tYesM, oAsg, gPut, gTp, gsCons, gsNil, mSeq, seq_l, seq_t, bind_leaf, bind_fail, lineOk_1, lineOk_2, lineOk_3, mPeek_z, mPeek_s, mVar_z, mVar_s, put_z, put_s, opAdd_i, opSub_i, opNeg_i, cLt_i, cLe_i, cGt_i, cGe_i, cEq_i, cNe_i, fAbs_i, fInt_i, fLen_t, fLen_l, ix0, ix1, Bool.false_eq_true, Bool.not_true, Bool.not_false, List.length_cons, List.length_nil, List.map_cons, List.map_nil, List.cons_append, List.nil_append, List.replicate, Nat.reduceAdd, Nat.reduceSub, Nat.zero_add, if_true, if_false, ↓reduceIte, c1, ft]
theorem lgarb_loop {n : Nat} {T : List (List Rat)} (hT : Tb n T) (n8 : n ≤ 8) {x : Option Slot} : ∀ (L : List (List Rat)) (ds : List D) (y : Option Slot), (∀ l ∈ L, l.length ≤ 8 ∧ ∀ q ∈ l, Sz 40 q) → ds.length + L.length ≤ 50 →
    ∃ y', oLoop (gPut 3) (oApp 2 (mA fTuple (aCons (mList (mLc (mRange1 (mA fLen (aCons (m2 opIx (mPeek 1) (fun _ => .leaf (.int 0))) aNil))) [4] (gPut 4) tYesM (mA f_law_sum (aCons (mList (mLc (mZip (mPeek 3) (mPeek 1)) [5, 6] (gTp 2 (gsCons (gPut 5) (gsCons (gPut 6) gsNil))) tYesM (mA f_law_times (aCons (mVar 5) (aCons (m2 opIx (mPeek 6) (mPeek 4)) aNil))))) aNil)))) aNil))) (L.map lotD) [x, some ⟨false, .lst (T.map lotD)⟩, some ⟨true, .lst ds⟩, y, none, none, none] = .leaf (.nx [x, some ⟨false, .lst (T.map lotD)⟩, some ⟨true, .lst (ds ++ L.map fun l => lotD ((List.range n).map (gv l T)))⟩, y', none, none, none])
  | [], ds, y, _, _ => ⟨y, by rw [List.map_nil, List.map_nil, List.append_nil]; rfl⟩
  | l :: L, ds, y, h, hl => by
    have r := h l List.mem_cons_self
    have k := app_2 (lrow_fr hT n8 r.1 r.2 (x := x) (y := some ⟨true, .lst ds⟩)) (ds := ds) (by simp at hl; omega)
    obtain ⟨y', ih⟩ := lgarb_loop hT n8 (x := x) L (ds ++ [lotD ((List.range n).map (gv l T))]) (some ⟨false, lotD l⟩) (fun z hz => h z (List.mem_cons_of_mem _ hz)) (by rw [List.length_append, List.length_singleton]; simp at hl; omega)
    refine ⟨y', ?_⟩
    rw [List.map_cons, List.map_cons]
    unfold oLoop
    generalize oApp = oa at *
    generalize T.map lotD = TD at *
    simp only [mDef, En.start, oSeq, oIf, oRet, oSet, oOwn, putOwn_z, putOwn_s, oPar, oNx, oFail, oEx, _root_.R.m2, _root_.R.m1, _root_.R.mA, aCons, aNil, _root_.R.mB, _root_.R.mC, mCh, _root_.R.mT, mNot, mAnd, mOr, mAndV, mOrV, mNotV, mIf, mTup, mLst, mList, asB_b, allS_leaf, wipe_n, wipe_c, wset_z, wset_s, tYesM, oAsg, gPut, gTp, gsCons, gsNil, mSeq, seq_l, seq_t, bind_leaf, bind_fail, lineOk_1, lineOk_2, lineOk_3, mPeek_z, mPeek_s, mVar_z, mVar_s, put_z, put_s, opAdd_i, opSub_i, opNeg_i, cLt_i, cLe_i, cGt_i, cGe_i, cEq_i, cNe_i, fAbs_i, fInt_i, fLen_t, fLen_l, ix0, ix1, Bool.false_eq_true, Bool.not_true, Bool.not_false, List.length_cons, List.length_nil, List.map_cons, List.map_nil, List.cons_append, List.nil_append, List.replicate, Nat.reduceAdd, Nat.reduceSub, Nat.zero_add, if_true, if_false, ↓reduceIte]
    rw [k, bind_leaf]
    rw [List.append_assoc] at ih
    exact ih
theorem lgarbled_fr {n : Nat} {L T : List (List Rat)} (hT : Tb n T) (n8 : n ≤ 8) (hL : Rw L) : f_law_garbled [lookD L, .lst (T.map lotD)] = .leaf (lookD (garb L T n)) := by
  obtain ⟨y', k⟩ := lgarb_loop hT n8 (x := some ⟨false, lookD L⟩) L [] none hL.rows (by have := hL.l8; simp; omega)
  have e : lookD (garb L T n) = .lst (L.map fun l => lotD ((List.range n).map (gv l T))) := by
    unfold lookD garb
    rw [List.map_map]
    rfl
  rw [e]
  rw [List.nil_append] at k
  have hs : mSeq (mVar 0) [some ⟨false, lookD L⟩, some ⟨false, .lst (T.map lotD)⟩, some ⟨true, .lst []⟩, none, none, none, none] = .leaf (L.map lotD) := by unfold lookD; simp only [mDef, En.start, oSeq, oIf, oRet, oSet, oOwn, putOwn_z, putOwn_s, oPar, oNx, oFail, oEx, _root_.R.m2, _root_.R.m1, _root_.R.mA, aCons, aNil, _root_.R.mB, _root_.R.mC, mCh, _root_.R.mT, mNot, mAnd, mOr, mAndV, mOrV, mNotV, mIf, mTup, mLst, mList, asB_b, allS_leaf, wipe_n, wipe_c, wset_z, wset_s, tYesM, oAsg, gPut, gTp, gsCons, gsNil, mSeq, seq_l, seq_t, bind_leaf, bind_fail, lineOk_1, lineOk_2, lineOk_3, mPeek_z, mPeek_s, mVar_z, mVar_s, put_z, put_s, opAdd_i, opSub_i, opNeg_i, cLt_i, cLe_i, cGt_i, cGe_i, cEq_i, cNe_i, fAbs_i, fInt_i, fLen_t, fLen_l, ix0, ix1, Bool.false_eq_true, Bool.not_true, Bool.not_false, List.length_cons, List.length_nil, List.map_cons, List.map_nil, List.cons_append, List.nil_append, List.replicate, Nat.reduceAdd, Nat.reduceSub, Nat.zero_add, if_true, if_false, ↓reduceIte]
  have hf := for_at hs k
  unfold f_law_garbled b_law_garbled
  generalize oFor = ff at *
  generalize (L.map fun l => lotD ((List.range n).map (gv l T))) = zs at *
  generalize D.lst (T.map lotD) = v at *
  generalize lookD L = w at *
  simp only [mDef, En.start, oSeq, oIf, oRet, oSet, oOwn, putOwn_z, putOwn_s, oPar, oNx, oFail, oEx, _root_.R.m2, _root_.R.m1, _root_.R.mA, aCons, aNil, _root_.R.mB, _root_.R.mC, mCh, _root_.R.mT, mNot, mAnd, mOr, mAndV, mOrV, mNotV, mIf, mTup, mLst, mList, asB_b, allS_leaf, wipe_n, wipe_c, wset_z, wset_s, tYesM, oAsg, gPut, gTp, gsCons, gsNil, mSeq, seq_l, seq_t, bind_leaf, bind_fail, lineOk_1, lineOk_2, lineOk_3, mPeek_z, mPeek_s, mVar_z, mVar_s, put_z, put_s, opAdd_i, opSub_i, opNeg_i, cLt_i, cLe_i, cGt_i, cGe_i, cEq_i, cNe_i, fAbs_i, fInt_i, fLen_t, fLen_l, ix0, ix1, Bool.false_eq_true, Bool.not_true, Bool.not_false, List.length_cons, List.length_nil, List.map_cons, List.map_nil, List.cons_append, List.nil_append, List.replicate, Nat.reduceAdd, Nat.reduceSub, Nat.zero_add, if_true, if_false, ↓reduceIte, lineOk_s, Nat.reduceLeDiff, hf, oFrz]
  rfl
end Law

set_option maxRecDepth 100000
set_option linter.all false
namespace Law
open R PySem L2
local macro_rules | `(tactic| walk_at "ev") => `(tactic| simp only [mDef, En.start, oSeq, oIf, oRet, oSet, oOwn, putOwn_z, putOwn_s, oPar, oNx, oFail, oEx, m2, m1, mA, aCons, aNil, mB, mC, mCh, mT, mNot, mAnd, mOr, mAndV, mOrV, mNotV, mIf, mTup, mLst, mList, asB_b, allS_leaf, wipe_n, wipe_c, wset_z, wset_s, tYesM, oAsg, gPut, gTp, gsCons, gsNil, mSeq, seq_l, seq_t, bind_leaf, bind_fail, lineOk_1, lineOk_2, lineOk_3, mPeek_z, mPeek_s, mVar_z, mVar_s, put_z, put_s, opAdd_i, opSub_i, opNeg_i, cLt_i, cLe_i, cGt_i, cGe_i, cEq_i, cNe_i, fAbs_i, fInt_i, fLen_t, fLen_l, ix0, ix1, Bool.false_eq_true, Bool.not_true, Bool.not_false,
  List.length_cons, List.length_nil, List.map_cons, List.map_nil, List.cons_append, List.nil_append, List.replicate, Nat.reduceAdd, Nat.reduceSub, Nat.zero_add, if_true, if_false, ↓reduceIte])

/-! ### right looks pass -/
structure Lk (m : Nat) (L : List (List Rat)) : Prop where
  l1 : 1 ≤ L.length
  l4 : L.length ≤ 4
  rows : ∀ l ∈ L, LotQ l ∧ l.length = m
theorem Lk.rw {m : Nat} {L : List (List Rat)} (h : Lk m L) : Rw L := ⟨by have := h.l4; omega, fun l hl => ⟨(h.rows l hl).1.l8, fun q hq => sh_sz ((h.rows l hl).1.sh q hq)⟩⟩
theorem Lk.m8 {m : Nat} {L : List (List Rat)} (h : Lk m L) : 1 ≤ m ∧ m ≤ 8 := by
  cases L with
  | nil => have := h.l1; simp at this
  | cons l r =>
    obtain ⟨a, b⟩ := h.rows l List.mem_cons_self
    rw [← b]
    exact ⟨a.l1, a.l8⟩
theorem lenD_lot (l : List Rat) : lenD (lotD l) = l.length := by show (l.map fr).length = _; rw [List.length_map]
theorem look_first {m : Nat} {L : List (List Rat)} (h : Lk m L) : ∃ l, opIx (lookD L) (.int 0) = .leaf (lotD l) ∧ l.length = m ∧ fLen [lotD l] = .leaf (.int (m : Int)) := by
  cases L with
  | nil => have := h.l1; simp at this
  | cons l r =>
    have hm := (h.rows l List.mem_cons_self).2
    exact ⟨l, ix_mk (b := true) (xs := (l :: r).map lotD) (k := 0) (by simp), hm, by unfold lotD; rw [fLen_t, List.length_map, hm]⟩
theorem len_look (L : List (List Rat)) : fLen [lookD L] = .leaf (.int L.length) := by unfold lookD; rw [fLen_l, List.length_map]
theorem check_fr {m : Nat} {L : List (List Rat)} (h : Lk m L) : f_check_look [lookD L] = .leaf .non := by
  have k := are_lots_mk (n := 2) (f := f_is_short_lot) (J := fun _ => true) (b := true) (xs := L.map lotD) rfl (by rw [List.length_map]; have := h.l4; omega) (fun x hx => by
    obtain ⟨l, hl, rfl⟩ := List.mem_map.mp hx
    exact shortlot_fr (h.rows l hl).1) (fun x hx _ => by
    obtain ⟨l, hl, rfl⟩ := List.mem_map.mp hx
    exact rfl)
  have e : lotsB (fun _ => true) (L.map lotD) = true := by
    cases L with
    | nil => have := h.l1; simp at this
    | cons l r =>
      show (((l :: r).map lotD).all (fun _ => true) && ((l :: r).map lotD).all fun y => lenD y == lenD (lotD l)) = true
      rw [Bool.and_eq_true, List.all_eq_true, List.all_eq_true]
      refine ⟨fun _ _ => rfl, fun x hx => ?_⟩
      obtain ⟨l', hl', rfl⟩ := List.mem_map.mp hx
      rw [lenD_lot, lenD_lot, (h.rows l' hl').2, (h.rows l List.mem_cons_self).2]
      exact beq_self_eq_true m
  rw [e, show mk true (L.map lotD) = lookD L from rfl] at k
  have k2 := len_look L
  have k3 : cGt (.int (L.length : Int)) (.int 6) = .leaf false := by
    rw [cGt_i, decide_eq_false (by have := h.l4; omega)]
  clear e h
  unfold f_check_look b_check_look
  generalize lookD L = v at *
  generalize (L.length : Int) = n at *
  generalize f_are_lots = f1 at *
  generalize fLen = f2 at *
  generalize cGt = f3 at *
  simp only [mDef, En.start, oSeq, oIf, oRet, oSet, oOwn, putOwn_z, putOwn_s, oPar, oNx, oFail, oEx, _root_.R.m2, _root_.R.m1, _root_.R.mA, aCons, aNil, _root_.R.mB, _root_.R.mC, mCh, _root_.R.mT, mNot, mAnd, mOr, mAndV, mOrV, mNotV, mIf, mTup, mLst, mList, asB_b, allS_leaf, wipe_n, wipe_c, wset_z, wset_s, tYesM, oAsg, gPut, gTp, gsCons, gsNil, mSeq, seq_l, seq_t, bind_leaf, bind_fail, lineOk_1, lineOk_2, lineOk_3, mPeek_z, mPeek_s, mVar_z, mVar_s, put_z, put_s, opAdd_i, opSub_i, opNeg_i, cLt_i, cLe_i, cGt_i, cGe_i, cEq_i, cNe_i, fAbs_i, fInt_i, fLen_t, fLen_l, ix0, ix1, Bool.false_eq_true, Bool.not_true, Bool.not_false, List.length_cons, List.length_nil, List.map_cons, List.map_nil, List.cons_append, List.nil_append, List.replicate, Nat.reduceAdd, Nat.reduceSub, Nat.zero_add, if_true, if_false, ↓reduceIte, k, k2, k3]
theorem cNe_nat (a b : Nat) : cNe (.int (a : Int)) (.int (b : Int)) = .leaf (!(a == b)) := by
  rw [cNe_i]
  congr 2
  rw [Bool.eq_iff_iff, beq_iff_eq, beq_iff_eq]
  omega
theorem checks_fr {m n : Nat} {L O : List (List Rat)} (h : Lk m L) (h' : Lk n O) (hl : L.length = O.length) : f_check_looks [lookD L, lookD O] = .leaf .non := by
  have k1 := check_fr h
  have k2 := check_fr h'
  have k3 := len_look L
  have k4 := len_look O
  have k5 := cNe_nat L.length O.length
  rw [show (L.length == O.length) = true from beq_iff_eq.mpr hl] at k5
  unfold f_check_looks b_check_looks
  generalize lookD L = v at *
  generalize lookD O = w at *
  generalize f_check_look = f1 at *
  generalize fLen = f2 at *
  generalize cNe = f3 at *
  simp only [mDef, En.start, oSeq, oIf, oRet, oSet, oOwn, putOwn_z, putOwn_s, oPar, oNx, oFail, oEx, _root_.R.m2, _root_.R.m1, _root_.R.mA, aCons, aNil, _root_.R.mB, _root_.R.mC, mCh, _root_.R.mT, mNot, mAnd, mOr, mAndV, mOrV, mNotV, mIf, mTup, mLst, mList, asB_b, allS_leaf, wipe_n, wipe_c, wset_z, wset_s, tYesM, oAsg, gPut, gTp, gsCons, gsNil, mSeq, seq_l, seq_t, bind_leaf, bind_fail, lineOk_1, lineOk_2, lineOk_3, mPeek_z, mPeek_s, mVar_z, mVar_s, put_z, put_s, opAdd_i, opSub_i, opNeg_i, cLt_i, cLe_i, cGt_i, cGe_i, cEq_i, cNe_i, fAbs_i, fInt_i, fLen_t, fLen_l, ix0, ix1, Bool.false_eq_true, Bool.not_true, Bool.not_false, List.length_cons, List.length_nil, List.map_cons, List.map_nil, List.cons_append, List.nil_append, List.replicate, Nat.reduceAdd, Nat.reduceSub, Nat.zero_add, if_true, if_false, ↓reduceIte, k1, k2, k3, k4, k5]
theorem signs_fr {m : Nat} {L : List (List Rat)} (h : Lk m L) : f_signs_of [lookD L] = .leaf (.int (m : Int)) := by
  obtain ⟨l, k1, _, k2⟩ := look_first h
  unfold f_signs_of b_signs_of
  generalize lookD L = v at *
  generalize opIx = oi at *
  generalize fLen = f2 at *
  simp only [mDef, En.start, oSeq, oIf, oRet, oSet, oOwn, putOwn_z, putOwn_s, oPar, oNx, oFail, oEx, _root_.R.m2, _root_.R.m1, _root_.R.mA, aCons, aNil, _root_.R.mB, _root_.R.mC, mCh, _root_.R.mT, mNot, mAnd, mOr, mAndV, mOrV, mNotV, mIf, mTup, mLst, mList, asB_b, allS_leaf, wipe_n, wipe_c, wset_z, wset_s, tYesM, oAsg, gPut, gTp, gsCons, gsNil, mSeq, seq_l, seq_t, bind_leaf, bind_fail, lineOk_1, lineOk_2, lineOk_3, mPeek_z, mPeek_s, mVar_z, mVar_s, put_z, put_s, opAdd_i, opSub_i, opNeg_i, cLt_i, cLe_i, cGt_i, cGe_i, cEq_i, cNe_i, fAbs_i, fInt_i, fLen_t, fLen_l, ix0, ix1, Bool.false_eq_true, Bool.not_true, Bool.not_false, List.length_cons, List.length_nil, List.map_cons, List.map_nil, List.cons_append, List.nil_append, List.replicate, Nat.reduceAdd, Nat.reduceSub, Nat.zero_add, if_true, if_false, ↓reduceIte, k1, k2]
theorem fit_look (L : List (List Rat)) : fitD 12 (lookD L) = true := by
  show (L.map lotD).all (fitD 11) = true
  rw [List.all_eq_true]
  intro x hx
  obtain ⟨l, _, rfl⟩ := List.mem_map.mp hx
  show (l.map fr).all (fitD 10) = true
  rw [List.all_eq_true]
  intro y hy
  obtain ⟨q, _, rfl⟩ := List.mem_map.mp hy
  rfl
theorem like_eq {k n : Nat} {x : D} (h : numD (k + 3) x = true) : f_law_is_lot_like [x, .int (n : Int)] = .leaf (.bl (isLotB x && (lenD x == n))) := by
  have k1 := (lot_eq h).2
  unfold f_law_is_lot_like b_law_is_lot_like
  cases e : isLotB x
  · rw [e] at k1
    generalize f_law_is_lot = f1 at *
    simp only [mDef, En.start, oSeq, oIf, oRet, oSet, oOwn, putOwn_z, putOwn_s, oPar, oNx, oFail, oEx, _root_.R.m2, _root_.R.m1, _root_.R.mA, aCons, aNil, _root_.R.mB, _root_.R.mC, mCh, _root_.R.mT, mNot, mAnd, mOr, mAndV, mOrV, mNotV, mIf, mTup, mLst, mList, asB_b, allS_leaf, wipe_n, wipe_c, wset_z, wset_s, tYesM, oAsg, gPut, gTp, gsCons, gsNil, mSeq, seq_l, seq_t, bind_leaf, bind_fail, lineOk_1, lineOk_2, lineOk_3, mPeek_z, mPeek_s, mVar_z, mVar_s, put_z, put_s, opAdd_i, opSub_i, opNeg_i, cLt_i, cLe_i, cGt_i, cGe_i, cEq_i, cNe_i, fAbs_i, fInt_i, fLen_t, fLen_l, ix0, ix1, Bool.false_eq_true, Bool.not_true, Bool.not_false, List.length_cons, List.length_nil, List.map_cons, List.map_nil, List.cons_append, List.nil_append, List.replicate, Nat.reduceAdd, Nat.reduceSub, Nat.zero_add, if_true, if_false, ↓reduceIte, k1]
    rfl
  · have k2 := lot_len e
    have k3 := cEq_nat (lenD x) n
    rw [e] at k1
    generalize f_law_is_lot = f1 at *
    generalize fLen = f2 at *
    generalize cEq = f3 at *
    simp only [mDef, En.start, oSeq, oIf, oRet, oSet, oOwn, putOwn_z, putOwn_s, oPar, oNx, oFail, oEx, _root_.R.m2, _root_.R.m1, _root_.R.mA, aCons, aNil, _root_.R.mB, _root_.R.mC, mCh, _root_.R.mT, mNot, mAnd, mOr, mAndV, mOrV, mNotV, mIf, mTup, mLst, mList, asB_b, allS_leaf, wipe_n, wipe_c, wset_z, wset_s, tYesM, oAsg, gPut, gTp, gsCons, gsNil, mSeq, seq_l, seq_t, bind_leaf, bind_fail, lineOk_1, lineOk_2, lineOk_3, mPeek_z, mPeek_s, mVar_z, mVar_s, put_z, put_s, opAdd_i, opSub_i, opNeg_i, cLt_i, cLe_i, cGt_i, cGe_i, cEq_i, cNe_i, fAbs_i, fInt_i, fLen_t, fLen_l, ix0, ix1, Bool.false_eq_true, Bool.not_true, Bool.not_false, List.length_cons, List.length_nil, List.map_cons, List.map_nil, List.cons_append, List.nil_append, List.replicate, Nat.reduceAdd, Nat.reduceSub, Nat.zero_add, if_true, if_false, ↓reduceIte, k1, k2, k3]
    rfl
theorem rows_of {k n : Nat} : ∀ xs : List D, (∀ x ∈ xs, numD (k + 3) x = true ∧ isLotB x = true ∧ lenD x = n) → ∃ T : List (List Rat), xs = T.map lotD ∧ ∀ t ∈ T, t.length = n ∧ ∀ q ∈ t, Sz 20 q
  | [], _ => ⟨[], rfl, fun _ h => nomatch h⟩
  | x :: xs, h => by
    obtain ⟨a, b, c⟩ := h x List.mem_cons_self
    obtain ⟨Q, rfl, _, _, hq, _⟩ := lot_is a b
    obtain ⟨T, rfl, hT⟩ := rows_of xs fun y hy => h y (List.mem_cons_of_mem _ hy)
    rw [lenD_lot] at c
    exact ⟨Q :: T, rfl, fun t ht => (List.mem_cons.mp ht).elim (fun e => e ▸ ⟨c, fun q hq' => (hq q hq').1⟩) (hT t)⟩
theorem tuples_at {O : List (List Rat)} (hl : O.length ≤ 8) {a v : D} : mLc (mSeq (mPeek 1)) [3] (gPut 3) tYesM (mA fTuple (aCons (mPeek 3) aNil)) [some ⟨false, a⟩, some ⟨false, lookD O⟩, some ⟨false, v⟩, none] = .leaf (O.map lotD) := by
  refine mLc_at (L := O) (dx := lotD) (by unfold lookD; simp only [mDef, En.start, oSeq, oIf, oRet, oSet, oOwn, putOwn_z, putOwn_s, oPar, oNx, oFail, oEx, _root_.R.m2, _root_.R.m1, _root_.R.mA, aCons, aNil, _root_.R.mB, _root_.R.mC, mCh, _root_.R.mT, mNot, mAnd, mOr, mAndV, mOrV, mNotV, mIf, mTup, mLst, mList, asB_b, allS_leaf, wipe_n, wipe_c, wset_z, wset_s, tYesM, oAsg, gPut, gTp, gsCons, gsNil, mSeq, seq_l, seq_t, bind_leaf, bind_fail, lineOk_1, lineOk_2, lineOk_3, mPeek_z, mPeek_s, mVar_z, mVar_s, put_z, put_s, opAdd_i, opSub_i, opNeg_i, cLt_i, cLe_i, cGt_i, cGe_i, cEq_i, cNe_i, fAbs_i, fInt_i, fLen_t, fLen_l, ix0, ix1, Bool.false_eq_true, Bool.not_true, Bool.not_false, List.length_cons, List.length_nil, List.map_cons, List.map_nil, List.cons_append, List.nil_append, List.replicate, Nat.reduceAdd, Nat.reduceSub, Nat.zero_add, if_true, if_false, ↓reduceIte]) (by omega) fun o ho => ⟨[some ⟨false, a⟩, some ⟨false, lookD O⟩, some ⟨false, v⟩, some ⟨false, lotD o⟩], by walk_at "ev", rfl, ?_⟩
  have k : fTuple [lotD o] = .leaf (lotD o) := rfl
  generalize fTuple = ft at *
  simp only [mDef, En.start, oSeq, oIf, oRet, oSet, oOwn, putOwn_z, putOwn_s, oPar, oNx, oFail, oEx, _root_.R.m2, _root_.R.m1, _root_.R.mA, aCons, aNil, _root_.R.mB, _root_.R.mC, mCh, _root_.R.mT, mNot, mAnd, mOr, mAndV, mOrV, mNotV, mIf, mTup, mLst, mList, asB_b, allS_leaf, wipe_n, wipe_c, wset_z, wset_s, tYesM, oAsg, gPut, gTp, gsCons, gsNil, mSeq, seq_l, seq_t, bind_leaf, bind_fail, lineOk_1, lineOk_2, lineOk_3, mPeek_z, mPeek_s, mVar_z, mVar_s, put_z, put_s, opAdd_i, opSub_i, opNeg_i, cLt_i, cLe_i, cGt_i, cGe_i, cEq_i, cNe_i, fAbs_i, fInt_i, fLen_t, fLen_l, ix0, ix1, Bool.false_eq_true, Bool.not_true, Bool.not_false, List.length_cons, List.length_nil, List.map_cons, List.map_nil, List.cons_append, List.nil_append, List.replicate, Nat.reduceAdd, Nat.reduceSub, Nat.zero_add, if_true, if_false, ↓reduceIte, k]
theorem garbling_eq {k m n : Nat} {L O : List (List Rat)} (hL : Lk m L) (hO : Lk n O) (hlen : L.length = O.length) {b : Bool} {xs : List D} (h8 : xs.length ≤ 8) (hn : ∀ x ∈ xs, numD (k + 3) x = true) :
    ∃ r, f_is_garbling [lookD L, lookD O, mk b xs] = .leaf (.bl r) ∧ f_law_is_garbling [lookD L, lookD O, mk b xs] = .leaf (.bl r) := by
  have c0 := checks_fr hL hO hlen
  have s1 := signs_fr hL
  have s2 := signs_fr hO
  obtain ⟨l0, i1, _, i2⟩ := look_first hL
  obtain ⟨o0, j1, _, j2⟩ := look_first hO
  have a1 := are_lots_mk (n := 1) (f := f_is_lot_of) (J := isLotB) (b := b) (xs := xs) rfl (by omega) (fun x hx => (lot_eq (hn x hx)).1) fun x _ h => lot_len h
  have k1 := len_mk b xs
  have l1 := lawlist_mk b xs
  have ne := cNe_nat xs.length m
  have sq := seq_mk b xs
  have c1 : mLc (mSeq (mPeek 2)) [3] (gPut 3) tYesM (mA f_law_is_lot_like (aCons (mVar 3) (aCons (mA fLen (aCons (m2 opIx (mPeek 1) (fun _ => .leaf (.int 0))) aNil)) aNil))) [some ⟨false, lookD L⟩, some ⟨false, lookD O⟩, some ⟨false, mk b xs⟩, none] = .leaf (xs.map fun x => .bl (isLotB x && (lenD x == n))) := by
    refine mLc_at (L := xs) (dx := id) (f := fun x => .bl (isLotB x && (lenD x == n))) (by simp only [mDef, En.start, oSeq, oIf, oRet, oSet, oOwn, putOwn_z, putOwn_s, oPar, oNx, oFail, oEx, _root_.R.m2, _root_.R.m1, _root_.R.mA, aCons, aNil, _root_.R.mB, _root_.R.mC, mCh, _root_.R.mT, mNot, mAnd, mOr, mAndV, mOrV, mNotV, mIf, mTup, mLst, mList, asB_b, allS_leaf, wipe_n, wipe_c, wset_z, wset_s, tYesM, oAsg, gPut, gTp, gsCons, gsNil, mSeq, seq_l, seq_t, bind_leaf, bind_fail, lineOk_1, lineOk_2, lineOk_3, mPeek_z, mPeek_s, mVar_z, mVar_s, put_z, put_s, opAdd_i, opSub_i, opNeg_i, cLt_i, cLe_i, cGt_i, cGe_i, cEq_i, cNe_i, fAbs_i, fInt_i, fLen_t, fLen_l, ix0, ix1, Bool.false_eq_true, Bool.not_true, Bool.not_false, List.length_cons, List.length_nil, List.map_cons, List.map_nil, List.cons_append, List.nil_append, List.replicate, Nat.reduceAdd, Nat.reduceSub, Nat.zero_add, if_true, if_false, ↓reduceIte, sq, List.map_id]) (by omega) fun x hx => ⟨[some ⟨false, lookD L⟩, some ⟨false, lookD O⟩, some ⟨false, mk b xs⟩, some ⟨false, x⟩], by simp only [mDef, En.start, oSeq, oIf, oRet, oSet, oOwn, putOwn_z, putOwn_s, oPar, oNx, oFail, oEx, _root_.R.m2, _root_.R.m1, _root_.R.mA, aCons, aNil, _root_.R.mB, _root_.R.mC, mCh, _root_.R.mT, mNot, mAnd, mOr, mAndV, mOrV, mNotV, mIf, mTup, mLst, mList, asB_b, allS_leaf, wipe_n, wipe_c, wset_z, wset_s, tYesM, oAsg, gPut, gTp, gsCons, gsNil, mSeq, seq_l, seq_t, bind_leaf, bind_fail, lineOk_1, lineOk_2, lineOk_3, mPeek_z, mPeek_s, mVar_z, mVar_s, put_z, put_s, opAdd_i, opSub_i, opNeg_i, cLt_i, cLe_i, cGt_i, cGe_i, cEq_i, cNe_i, fAbs_i, fInt_i, fLen_t, fLen_l, ix0, ix1, Bool.false_eq_true, Bool.not_true, Bool.not_false, List.length_cons, List.length_nil, List.map_cons, List.map_nil, List.cons_append, List.nil_append, List.replicate, Nat.reduceAdd, Nat.reduceSub, Nat.zero_add, if_true, if_false, ↓reduceIte]; rfl, rfl, ?_⟩
    have k := like_eq (n := n) (hn x hx)
    generalize f_law_is_lot_like = f1 at *
    generalize opIx = oi at *
    generalize fLen = fl at *
    simp only [mDef, En.start, oSeq, oIf, oRet, oSet, oOwn, putOwn_z, putOwn_s, oPar, oNx, oFail, oEx, _root_.R.m2, _root_.R.m1, _root_.R.mA, aCons, aNil, _root_.R.mB, _root_.R.mC, mCh, _root_.R.mT, mNot, mAnd, mOr, mAndV, mOrV, mNotV, mIf, mTup, mLst, mList, asB_b, allS_leaf, wipe_n, wipe_c, wset_z, wset_s, tYesM, oAsg, gPut, gTp, gsCons, gsNil, mSeq, seq_l, seq_t, bind_leaf, bind_fail, lineOk_1, lineOk_2, lineOk_3, mPeek_z, mPeek_s, mVar_z, mVar_s, put_z, put_s, opAdd_i, opSub_i, opNeg_i, cLt_i, cLe_i, cGt_i, cGe_i, cEq_i, cNe_i, fAbs_i, fInt_i, fLen_t, fLen_l, ix0, ix1, Bool.false_eq_true, Bool.not_true, Bool.not_false, List.length_cons, List.length_nil, List.map_cons, List.map_nil, List.cons_append, List.nil_append, List.replicate, Nat.reduceAdd, Nat.reduceSub, Nat.zero_add, if_true, if_false, ↓reduceIte, j1, j2, k]
  have al := all_bl (fun x => isLotB x && (lenD x == n)) xs
  by_cases hm : xs.length = m
  · by_cases hall : (xs.all fun x => isLotB x && (lenD x == n)) = true
    · -- both reckon
      have hx : ∀ x ∈ xs, numD (k + 3) x = true ∧ isLotB x = true ∧ lenD x = n := fun x hx => by
        have := List.all_eq_true.mp hall x hx
        rw [Bool.and_eq_true, beq_iff_eq] at this
        exact ⟨hn x hx, this⟩
      obtain ⟨T, rfl, hT⟩ := rows_of xs hx
      have m1 := hL.m8.1
      have tb : Tb n T := ⟨by rw [List.length_map] at hm; omega, by rw [List.length_map] at h8; exact h8, hT⟩
      have g1 := garbled_fr (b := b) tb hO.m8.2 hL.rw
      have g2 := lgarbled_fr tb hO.m8.2 hL.rw
      have ce := cEq_num (fit_look (garb L T n)) (fit_look O)
      have tu := tuples_at (O := O) (by have := hO.l4; omega) (a := lookD L) (v := mk b (T.map lotD))
      have lb : lotsB isLotB (T.map lotD) = true := by
        cases T with
        | nil => have := tb.l1; simp at this
        | cons t r =>
          show (((t :: r).map lotD).all isLotB && ((t :: r).map lotD).all fun y => lenD y == lenD (lotD t)) = true
          rw [Bool.and_eq_true, List.all_eq_true, List.all_eq_true]
          refine ⟨fun x h => (hx x h).2.1, fun x h => ?_⟩
          rw [(hx x h).2.2, (hx (lotD t) List.mem_cons_self).2.2]
          exact beq_self_eq_true n
      obtain ⟨v0, vi, vl⟩ : ∃ v0, opIx (mk b (T.map lotD)) (.int 0) = .leaf v0 ∧ fLen [v0] = .leaf (.int (n : Int)) := by
        cases T with
        | nil => have := tb.l1; simp at this
        | cons t r => exact ⟨lotD t, ix_mk (b := b) (xs := (t :: r).map lotD) (k := 0) (by simp), by unfold lotD; rw [fLen_t, List.length_map, (hT t List.mem_cons_self).1]⟩
      have nn := cNe_nat n n
      have f1 : fList (mk b (T.map lotD)) = .leaf (T.map lotD) := by cases b <;> rfl
      have f2 : fList (lookD O) = .leaf (O.map lotD) := rfl
      rw [lb] at a1
      rw [hall] at al
      rw [show (((T.map lotD).length == m)) = true from beq_iff_eq.mpr hm] at ne
      rw [beq_self_eq_true] at nn
      refine ⟨eqD 12 (lookD (garb L T n)) (lookD O), ?_, ?_⟩
      · clear c1 al l1 g2 lb hall hx hn
        have eO : (D.lst (O.map lotD)) = lookD O := rfl
        unfold f_is_garbling b_is_garbling f_is_garbling_of b_is_garbling_of
        generalize O.map lotD = Om at *
        generalize lookD (garb L T n) = G at *
        generalize lookD L = v at *
        generalize lookD O = w at *
        generalize mk b (T.map lotD) = u at *
        generalize f_check_looks = q1 at *
        generalize f_are_lots = q2 at *
        generalize f_signs_of = q3 at *
        generalize f_garbled_of = q4 at *
        generalize fLen = q5 at *
        generalize opIx = q6 at *
        generalize cNe = q7 at *
        generalize cEq = q8 at *
        generalize mLc = q9 at *
        simp only [mDef, En.start, oSeq, oIf, oRet, oSet, oOwn, putOwn_z, putOwn_s, oPar, oNx, oFail, oEx, _root_.R.m2, _root_.R.m1, _root_.R.mA, aCons, aNil, _root_.R.mB, _root_.R.mC, mCh, _root_.R.mT, mNot, mAnd, mOr, mAndV, mOrV, mNotV, mIf, mTup, mLst, mList, asB_b, allS_leaf, wipe_n, wipe_c, wset_z, wset_s, tYesM, oAsg, gPut, gTp, gsCons, gsNil, mSeq, seq_l, seq_t, bind_leaf, bind_fail, lineOk_1, lineOk_2, lineOk_3, mPeek_z, mPeek_s, mVar_z, mVar_s, put_z, put_s, opAdd_i, opSub_i, opNeg_i, cLt_i, cLe_i, cGt_i, cGe_i, cEq_i, cNe_i, fAbs_i, fInt_i, fLen_t, fLen_l, ix0, ix1, Bool.false_eq_true, Bool.not_true, Bool.not_false, List.length_cons, List.length_nil, List.map_cons, List.map_nil, List.cons_append, List.nil_append, List.replicate, Nat.reduceAdd, Nat.reduceSub, Nat.zero_add, if_true, if_false, ↓reduceIte, c0, a1, k1, s1, ne, vi, vl, s2, nn, g1, tu, eO, ce]
      · clear a1 g1 lb hall hx hn tu c0 s1 s2
        have eO : (D.lst (O.map lotD)) = lookD O := rfl
        unfold f_law_is_garbling b_law_is_garbling
        generalize ((T.map lotD).map fun x => D.bl (isLotB x && (lenD x == n))) = bs at *
        generalize O.map lotD = Om at *
        generalize lookD (garb L T n) = G at *
        generalize lookD L = v at *
        generalize lookD O = w at *
        generalize mk b (T.map lotD) = u at *
        generalize T.map lotD = Tm at *
        generalize f_law_is_list = q1 at *
        generalize fAll = q2 at *
        generalize f_law_garbled = q4 at *
        generalize fLen = q5 at *
        generalize opIx = q6 at *
        generalize cNe = q7 at *
        generalize cEq = q8 at *
        generalize mLc = q9 at *
        simp only [mDef, En.start, oSeq, oIf, oRet, oSet, oOwn, putOwn_z, putOwn_s, oPar, oNx, oFail, oEx, _root_.R.m2, _root_.R.m1, _root_.R.mA, aCons, aNil, _root_.R.mB, _root_.R.mC, mCh, _root_.R.mT, mNot, mAnd, mOr, mAndV, mOrV, mNotV, mIf, mTup, mLst, mList, asB_b, allS_leaf, wipe_n, wipe_c, wset_z, wset_s, tYesM, oAsg, gPut, gTp, gsCons, gsNil, mSeq, seq_l, seq_t, bind_leaf, bind_fail, lineOk_1, lineOk_2, lineOk_3, mPeek_z, mPeek_s, mVar_z, mVar_s, put_z, put_s, opAdd_i, opSub_i, opNeg_i, cLt_i, cLe_i, cGt_i, cGe_i, cEq_i, cNe_i, fAbs_i, fInt_i, fLen_t, fLen_l, ix0, ix1, Bool.false_eq_true, Bool.not_true, Bool.not_false, List.length_cons, List.length_nil, List.map_cons, List.map_nil, List.cons_append, List.nil_append, List.replicate, Nat.reduceAdd, Nat.reduceSub, Nat.zero_add, if_true, if_false, ↓reduceIte, l1, k1, i1, i2, ne, c1, al, mListOf, f1, f2, g2, eO, ce]
    · -- a row is wrong
      rw [Bool.eq_false_iff.mpr hall] at al
      rw [show ((xs.length == m)) = true from beq_iff_eq.mpr hm] at ne
      refine ⟨false, ?_, ?_⟩
      · clear c1 al l1
        cases xs with
        | nil =>
          exfalso
          have := hL.m8.1
          simp at hm
          omega
        | cons x r =>
          by_cases lb : lotsB isLotB (x :: r) = true
          · have lb' : ((x :: r).all isLotB && (x :: r).all fun y => lenD y == lenD x) = true := lb
            rw [Bool.and_eq_true, List.all_eq_true, List.all_eq_true] at lb'
            have hx : lenD x ≠ n := fun e => hall (List.all_eq_true.mpr fun y hy => by
              rw [Bool.and_eq_true]
              exact ⟨lb'.1 y hy, by have := lb'.2 y hy; rw [e] at this; exact this⟩)
            have vi : opIx (mk b (x :: r)) (.int 0) = .leaf x := ix_mk (b := b) (xs := x :: r) (k := 0) (by simp)
            have vl := lot_len (lb'.1 x List.mem_cons_self)
            have nn := cNe_nat (lenD x) n
            rw [show (lenD x == n) = false from beq_eq_false_iff_ne.mpr hx] at nn
            rw [lb] at a1
            clear lb lb' hall hn hx sq
            unfold f_is_garbling b_is_garbling f_is_garbling_of b_is_garbling_of
            generalize lookD L = v at *
            generalize lookD O = w at *
            generalize mk b (x :: r) = u at *
            generalize (x :: r).length = ln at *
            generalize f_check_looks = q1 at *
            generalize f_are_lots = q2 at *
            generalize f_signs_of = q3 at *
            generalize fLen = q5 at *
            generalize opIx = q6 at *
            generalize cNe = q7 at *
            simp only [mDef, En.start, oSeq, oIf, oRet, oSet, oOwn, putOwn_z, putOwn_s, oPar, oNx, oFail, oEx, _root_.R.m2, _root_.R.m1, _root_.R.mA, aCons, aNil, _root_.R.mB, _root_.R.mC, mCh, _root_.R.mT, mNot, mAnd, mOr, mAndV, mOrV, mNotV, mIf, mTup, mLst, mList, asB_b, allS_leaf, wipe_n, wipe_c, wset_z, wset_s, tYesM, oAsg, gPut, gTp, gsCons, gsNil, mSeq, seq_l, seq_t, bind_leaf, bind_fail, lineOk_1, lineOk_2, lineOk_3, mPeek_z, mPeek_s, mVar_z, mVar_s, put_z, put_s, opAdd_i, opSub_i, opNeg_i, cLt_i, cLe_i, cGt_i, cGe_i, cEq_i, cNe_i, fAbs_i, fInt_i, fLen_t, fLen_l, ix0, ix1, Bool.false_eq_true, Bool.not_true, Bool.not_false, List.length_cons, List.length_nil, List.map_cons, List.map_nil, List.cons_append, List.nil_append, List.replicate, Nat.reduceAdd, Nat.reduceSub, Nat.zero_add, if_true, if_false, ↓reduceIte, c0, a1, k1, s1, ne, vi, vl, s2, nn]
          · rw [Bool.eq_false_iff.mpr lb] at a1
            clear lb hall hn sq
            unfold f_is_garbling b_is_garbling f_is_garbling_of b_is_garbling_of
            generalize lookD L = v at *
            generalize lookD O = w at *
            generalize mk b (x :: r) = u at *
            generalize f_check_looks = q1 at *
            generalize f_are_lots = q2 at *
            simp only [mDef, En.start, oSeq, oIf, oRet, oSet, oOwn, putOwn_z, putOwn_s, oPar, oNx, oFail, oEx, _root_.R.m2, _root_.R.m1, _root_.R.mA, aCons, aNil, _root_.R.mB, _root_.R.mC, mCh, _root_.R.mT, mNot, mAnd, mOr, mAndV, mOrV, mNotV, mIf, mTup, mLst, mList, asB_b, allS_leaf, wipe_n, wipe_c, wset_z, wset_s, tYesM, oAsg, gPut, gTp, gsCons, gsNil, mSeq, seq_l, seq_t, bind_leaf, bind_fail, lineOk_1, lineOk_2, lineOk_3, mPeek_z, mPeek_s, mVar_z, mVar_s, put_z, put_s, opAdd_i, opSub_i, opNeg_i, cLt_i, cLe_i, cGt_i, cGe_i, cEq_i, cNe_i, fAbs_i, fInt_i, fLen_t, fLen_l, ix0, ix1, Bool.false_eq_true, Bool.not_true, Bool.not_false, List.length_cons, List.length_nil, List.map_cons, List.map_nil, List.cons_append, List.nil_append, List.replicate, Nat.reduceAdd, Nat.reduceSub, Nat.zero_add, if_true, if_false, ↓reduceIte, c0, a1]
      · clear a1 hall hn c0 s1 s2 sq
        unfold f_law_is_garbling b_law_is_garbling
        generalize (xs.map fun x => D.bl (isLotB x && (lenD x == n))) = bs at *
        generalize lookD L = v at *
        generalize lookD O = w at *
        generalize mk b xs = u at *
        generalize f_law_is_list = q1 at *
        generalize fAll = q2 at *
        generalize fLen = q5 at *
        generalize opIx = q6 at *
        generalize cNe = q7 at *
        generalize mLc = q9 at *
        simp only [mDef, En.start, oSeq, oIf, oRet, oSet, oOwn, putOwn_z, putOwn_s, oPar, oNx, oFail, oEx, _root_.R.m2, _root_.R.m1, _root_.R.mA, aCons, aNil, _root_.R.mB, _root_.R.mC, mCh, _root_.R.mT, mNot, mAnd, mOr, mAndV, mOrV, mNotV, mIf, mTup, mLst, mList, asB_b, allS_leaf, wipe_n, wipe_c, wset_z, wset_s, tYesM, oAsg, gPut, gTp, gsCons, gsNil, mSeq, seq_l, seq_t, bind_leaf, bind_fail, lineOk_1, lineOk_2, lineOk_3, mPeek_z, mPeek_s, mVar_z, mVar_s, put_z, put_s, opAdd_i, opSub_i, opNeg_i, cLt_i, cLe_i, cGt_i, cGe_i, cEq_i, cNe_i, fAbs_i, fInt_i, fLen_t, fLen_l, ix0, ix1, Bool.false_eq_true, Bool.not_true, Bool.not_false, List.length_cons, List.length_nil, List.map_cons, List.map_nil, List.cons_append, List.nil_append, List.replicate, Nat.reduceAdd, Nat.reduceSub, Nat.zero_add, if_true, if_false, ↓reduceIte, l1, k1, i1, i2, ne, c1, al]
  · rw [show ((xs.length == m)) = false from beq_eq_false_iff_ne.mpr hm] at ne
    refine ⟨false, ?_, ?_⟩
    · clear c1 al l1 hn sq
      unfold f_is_garbling b_is_garbling f_is_garbling_of b_is_garbling_of
      generalize lotsB isLotB xs = lb at *
      generalize lookD L = v at *
      generalize lookD O = w at *
      generalize mk b xs = u at *
      generalize f_check_looks = q1 at *
      generalize f_are_lots = q2 at *
      generalize f_signs_of = q3 at *
      generalize fLen = q5 at *
      generalize cNe = q7 at *
      cases lb
      · simp only [mDef, En.start, oSeq, oIf, oRet, oSet, oOwn, putOwn_z, putOwn_s, oPar, oNx, oFail, oEx, _root_.R.m2, _root_.R.m1, _root_.R.mA, aCons, aNil, _root_.R.mB, _root_.R.mC, mCh, _root_.R.mT, mNot, mAnd, mOr, mAndV, mOrV, mNotV, mIf, mTup, mLst, mList, asB_b, allS_leaf, wipe_n, wipe_c, wset_z, wset_s, tYesM, oAsg, gPut, gTp, gsCons, gsNil, mSeq, seq_l, seq_t, bind_leaf, bind_fail, lineOk_1, lineOk_2, lineOk_3, mPeek_z, mPeek_s, mVar_z, mVar_s, put_z, put_s, opAdd_i, opSub_i, opNeg_i, cLt_i, cLe_i, cGt_i, cGe_i, cEq_i, cNe_i, fAbs_i, fInt_i, fLen_t, fLen_l, ix0, ix1, Bool.false_eq_true, Bool.not_true, Bool.not_false, List.length_cons, List.length_nil, List.map_cons, List.map_nil, List.cons_append, List.nil_append, List.replicate, Nat.reduceAdd, Nat.reduceSub, Nat.zero_add, if_true, if_false, ↓reduceIte, c0, a1]
      · simp only [mDef, En.start, oSeq, oIf, oRet, oSet, oOwn, putOwn_z, putOwn_s, oPar, oNx, oFail, oEx, _root_.R.m2, _root_.R.m1, _root_.R.mA, aCons, aNil, _root_.R.mB, _root_.R.mC, mCh, _root_.R.mT, mNot, mAnd, mOr, mAndV, mOrV, mNotV, mIf, mTup, mLst, mList, asB_b, allS_leaf, wipe_n, wipe_c, wset_z, wset_s, tYesM, oAsg, gPut, gTp, gsCons, gsNil, mSeq, seq_l, seq_t, bind_leaf, bind_fail, lineOk_1, lineOk_2, lineOk_3, mPeek_z, mPeek_s, mVar_z, mVar_s, put_z, put_s, opAdd_i, opSub_i, opNeg_i, cLt_i, cLe_i, cGt_i, cGe_i, cEq_i, cNe_i, fAbs_i, fInt_i, fLen_t, fLen_l, ix0, ix1, Bool.false_eq_true, Bool.not_true, Bool.not_false, List.length_cons, List.length_nil, List.map_cons, List.map_nil, List.cons_append, List.nil_append, List.replicate, Nat.reduceAdd, Nat.reduceSub, Nat.zero_add, if_true, if_false, ↓reduceIte, c0, a1, k1, s1, ne]
    · clear a1 hn c0 s1 s2 sq
      unfold f_law_is_garbling b_law_is_garbling
      generalize lookD L = v at *
      generalize lookD O = w at *
      generalize mk b xs = u at *
      generalize f_law_is_list = q1 at *
      generalize fLen = q5 at *
      generalize opIx = q6 at *
      generalize cNe = q7 at *
      simp only [mDef, En.start, oSeq, oIf, oRet, oSet, oOwn, putOwn_z, putOwn_s, oPar, oNx, oFail, oEx, _root_.R.m2, _root_.R.m1, _root_.R.mA, aCons, aNil, _root_.R.mB, _root_.R.mC, mCh, _root_.R.mT, mNot, mAnd, mOr, mAndV, mOrV, mNotV, mIf, mTup, mLst, mList, asB_b, allS_leaf, wipe_n, wipe_c, wset_z, wset_s, tYesM, oAsg, gPut, gTp, gsCons, gsNil, mSeq, seq_l, seq_t, bind_leaf, bind_fail, lineOk_1, lineOk_2, lineOk_3, mPeek_z, mPeek_s, mVar_z, mVar_s, put_z, put_s, opAdd_i, opSub_i, opNeg_i, cLt_i, cLe_i, cGt_i, cGe_i, cEq_i, cNe_i, fAbs_i, fInt_i, fLen_t, fLen_l, ix0, ix1, Bool.false_eq_true, Bool.not_true, Bool.not_false, List.length_cons, List.length_nil, List.map_cons, List.map_nil, List.cons_append, List.nil_append, List.replicate, Nat.reduceAdd, Nat.reduceSub, Nat.zero_add, if_true, if_false, ↓reduceIte, l1, k1, i1, i2, ne]
theorem garbling_leaf {m n : Nat} {L O : List (List Rat)} (hL : Lk m L) (hO : Lk n O) (hlen : L.length = O.length) {d : D} (h : leafB d = true) :
    f_is_garbling [lookD L, lookD O, d] = .leaf (.bl false) ∧ f_law_is_garbling [lookD L, lookD O, d] = .leaf (.bl false) := by
  have c0 := checks_fr hL hO hlen
  have a1 := are_lots_leaf (e := .fn 1) h
  have l1 := lawlist_leaf h
  refine ⟨?_, ?_⟩
  · unfold f_is_garbling b_is_garbling f_is_garbling_of b_is_garbling_of
    generalize lookD L = v at *
    generalize lookD O = w at *
    generalize f_check_looks = q1 at *
    generalize f_are_lots = q2 at *
    simp only [mDef, En.start, oSeq, oIf, oRet, oSet, oOwn, putOwn_z, putOwn_s, oPar, oNx, oFail, oEx, _root_.R.m2, _root_.R.m1, _root_.R.mA, aCons, aNil, _root_.R.mB, _root_.R.mC, mCh, _root_.R.mT, mNot, mAnd, mOr, mAndV, mOrV, mNotV, mIf, mTup, mLst, mList, asB_b, allS_leaf, wipe_n, wipe_c, wset_z, wset_s, tYesM, oAsg, gPut, gTp, gsCons, gsNil, mSeq, seq_l, seq_t, bind_leaf, bind_fail, lineOk_1, lineOk_2, lineOk_3, mPeek_z, mPeek_s, mVar_z, mVar_s, put_z, put_s, opAdd_i, opSub_i, opNeg_i, cLt_i, cLe_i, cGt_i, cGe_i, cEq_i, cNe_i, fAbs_i, fInt_i, fLen_t, fLen_l, ix0, ix1, Bool.false_eq_true, Bool.not_true, Bool.not_false, List.length_cons, List.length_nil, List.map_cons, List.map_nil, List.cons_append, List.nil_append, List.replicate, Nat.reduceAdd, Nat.reduceSub, Nat.zero_add, if_true, if_false, ↓reduceIte, c0, a1]
  · unfold f_law_is_garbling b_law_is_garbling
    generalize lookD L = v at *
    generalize lookD O = w at *
    generalize f_law_is_list = q1 at *
    simp only [mDef, En.start, oSeq, oIf, oRet, oSet, oOwn, putOwn_z, putOwn_s, oPar, oNx, oFail, oEx, _root_.R.m2, _root_.R.m1, _root_.R.mA, aCons, aNil, _root_.R.mB, _root_.R.mC, mCh, _root_.R.mT, mNot, mAnd, mOr, mAndV, mOrV, mNotV, mIf, mTup, mLst, mList, asB_b, allS_leaf, wipe_n, wipe_c, wset_z, wset_s, tYesM, oAsg, gPut, gTp, gsCons, gsNil, mSeq, seq_l, seq_t, bind_leaf, bind_fail, lineOk_1, lineOk_2, lineOk_3, mPeek_z, mPeek_s, mVar_z, mVar_s, put_z, put_s, opAdd_i, opSub_i, opNeg_i, cLt_i, cLe_i, cGt_i, cGe_i, cEq_i, cNe_i, fAbs_i, fInt_i, fLen_t, fLen_l, ix0, ix1, Bool.false_eq_true, Bool.not_true, Bool.not_false, List.length_cons, List.length_nil, List.map_cons, List.map_nil, List.cons_append, List.nil_append, List.replicate, Nat.reduceAdd, Nat.reduceSub, Nat.zero_add, if_true, if_false, ↓reduceIte, l1]
theorem va_garbling {m n : Nat} {L O : List (List Rat)} (hL : Lk m L) (hO : Lk n O) (hlen : L.length = O.length) {d : D} (h : Va d) :
    ∃ r, f_is_garbling [lookD L, lookD O, d] = .leaf (.bl r) ∧ f_law_is_garbling [lookD L, lookD O, d] = .leaf (.bl r) := by
  rcases bnd_or h with h1 | ⟨_, _, b, xs, _, rfl⟩
  · exact ⟨false, garbling_leaf hL hO hlen h1⟩
  · obtain ⟨h1, h2⟩ := va_mk h
    exact garbling_eq (k := 8) hL hO hlen h1 fun x hx => num_bnd (by decide) (h2 x hx)
end Law

set_option maxRecDepth 100000
set_option linter.all false
namespace Law
open R PySem L2
local macro_rules | `(tactic| walk_at "ev") => `(tactic| simp only [mDef, En.start, oSeq, oIf, oRet, oSet, oOwn, putOwn_z, putOwn_s, oPar, oNx, oFail, oEx, m2, m1, mA, aCons, aNil, mB, mC, mCh, mT, mNot, mAnd, mOr, mAndV, mOrV, mNotV, mIf, mTup, mLst, mList, asB_b, allS_leaf, wipe_n, wipe_c, wset_z, wset_s, tYesM, oAsg, gPut, gTp, gsCons, gsNil, mSeq, seq_l, seq_t, bind_leaf, bind_fail, lineOk_1, lineOk_2, lineOk_3, mPeek_z, mPeek_s, mVar_z, mVar_s, put_z, put_s, opAdd_i, opSub_i, opNeg_i, cLt_i, cLe_i, cGt_i, cGe_i, cEq_i, cNe_i, fAbs_i, fInt_i, fLen_t, fLen_l, ix0, ix1, Bool.false_eq_true, Bool.not_true, Bool.not_false,
  List.length_cons, List.length_nil, List.map_cons, List.map_nil, List.cons_append, List.nil_append, List.replicate, Nat.reduceAdd, Nat.reduceSub, Nat.zero_add, if_true, if_false, ↓reduceIte])

/-! ### worths -/
def mx (f y : Rat) : Rat := if f < y then y else f
def mxR : List Rat → Rat
  | [] => 0
  | x :: r => r.foldl mx x
def bIgo (g : List Rat) : List Rat → Nat → Nat → Nat
  | [], _, i => i
  | y :: r, k, i => bIgo g r (k + 1) (if g.getD i 0 < y then k else i)
theorem bI_lt (g : List Rat) : ∀ (r : List Rat) (k i : Nat), k + r.length = g.length → i < g.length → bIgo g r k i < g.length
  | [], _, i, _, h => h
  | y :: r, k, i, hk, h => by
    rw [List.length_cons] at hk
    unfold bIgo
    refine bI_lt g r (k + 1) _ (by omega) ?_
    split
    · omega
    · exact h
theorem bI_val (g : List Rat) : ∀ (r : List Rat) (k i : Nat), g.drop k = r → g.getD (bIgo g r k i) 0 = r.foldl mx (g.getD i 0)
  | [], _, i, _ => rfl
  | y :: r, k, i, hk => by
    have hk2 : g.drop (k + 1) = r := by rw [← List.drop_drop (i := 1) (j := k), hk]; rfl
    have hy : g.getD k 0 = y := by
      have : (g.drop k)[0]? = some y := by rw [hk]; rfl
      rw [List.getElem?_drop, Nat.add_zero] at this
      rw [List.getD_eq_getElem?_getD, this]
      rfl
    unfold bIgo
    rw [bI_val g r (k + 1) _ hk2, List.foldl_cons]
    congr 1
    unfold mx
    split
    · exact hy
    · rfl
def bI (g : List Rat) : Nat := bIgo g g 0 0
theorem bI_mx {g : List Rat} (h : 1 ≤ g.length) : bI g < g.length ∧ g.getD (bI g) 0 = mxR g := by
  refine ⟨bI_lt g g 0 0 (by omega) (by omega), ?_⟩
  unfold bI
  rw [bI_val g g 0 0 rfl]
  cases g with
  | nil => simp at h
  | cons x r =>
    show (x :: r).foldl mx x = r.foldl mx x
    rw [List.foldl_cons]
    congr 1
    unfold mx
    split <;> rfl
theorem foldl_mem : ∀ (r : List Rat) (x : Rat), r.foldl mx x = x ∨ r.foldl mx x ∈ r
  | [], x => .inl rfl
  | y :: r, x => by
    rw [List.foldl_cons]
    rcases foldl_mem r (mx x y) with h | h
    · rw [h]
      unfold mx
      split
      · exact .inr List.mem_cons_self
      · exact .inl rfl
    · exact .inr (List.mem_cons_of_mem _ h)
theorem mxR_mem {g : List Rat} (h : 1 ≤ g.length) : mxR g ∈ g := by
  cases g with
  | nil => simp at h
  | cons x r =>
    rcases foldl_mem r x with e | e
    · show r.foldl mx x ∈ _
      rw [e]; exact List.mem_cons_self
    · exact List.mem_cons_of_mem _ e
def actD (p : Bool × List Rat) : D := mk p.1 (p.2.map fr)
def ch (P : List Rat) (L : List (List Rat)) (j : Nat) : List Rat := (P.zip L).map fun x => x.1 * x.2.getD j 0
def gn (P : List Rat) (L : List (List Rat)) (A : List (Bool × List Rat)) (j : Nat) : List Rat := A.map fun a => dotR (ch P L j) a.2
def wo (P : List Rat) (L : List (List Rat)) (A : List (Bool × List Rat)) (m : Nat) : Rat := ((List.range m).map fun j => mxR (gn P L A j)).sum
structure Ch (s : Nat) (P : List Rat) (A : List (Bool × List Rat)) : Prop where
  pl : P.length = s
  ps : ∀ q ∈ P, Sz 20 q
  a1 : 1 ≤ A.length
  a8 : A.length ≤ 8
  rows : ∀ a ∈ A, ∀ q ∈ a.2, Sz 20 q
section
variable {m : Nat} {P : List Rat} {L : List (List Rat)} {A : List (Bool × List Rat)}
theorem ch_sz (hC : Ch L.length P A) (hL : Lk m L) (j : Nat) : ∀ q ∈ ch P L j, Sz 60 q := fun q hq => by
  obtain ⟨x, hx, rfl⟩ := List.mem_map.mp hq
  have h1 := hC.ps _ (List.of_mem_zip hx).1
  have h2 := getD_sz (j := j) (n := 40) (by omega) fun q hq => sh_sz ((hL.rows _ (List.of_mem_zip hx).2).1.sh q hq)
  exact (sz_mul h1 h2).mono (by omega)
theorem ch_len (hC : Ch L.length P A) (hL : Lk m L) (j : Nat) : (ch P L j).length ≤ 4 := by
  unfold ch
  rw [List.length_map, List.length_zip]
  have := hL.l4
  omega
theorem gn_sz (hC : Ch L.length P A) (hL : Lk m L) (j : Nat) : ∀ q ∈ gn P L A j, Sz 325 q := fun q hq => by
  obtain ⟨a, ha, rfl⟩ := List.mem_map.mp hq
  have h := sum_sz (n := 80) (by omega) _ (dot_sz (ch_sz hC hL j) (hC.rows a ha))
  refine h.mono ?_
  rw [List.length_map]
  have : ((ch P L j).zip a.2).length ≤ 4 := by rw [List.length_zip]; have := ch_len hC hL j; omega
  omega
theorem gn_len (j : Nat) : (gn P L A j).length = A.length := by unfold gn; rw [List.length_map]
theorem seen_fr (hC : Ch L.length P A) (hL : Lk m L) {j : Nat} (hj : j < m) : f_seen_with [lookD L, lotD P, .int (j : Int)] = .leaf (.lst ((ch P L j).map fr)) := by
  have c1 : mLc (mZip (mPeek 1) (mPeek 0)) [3, 4] (gTp 2 (gsCons (gPut 3) (gsCons (gPut 4) gsNil))) tYesM (mA f_multiply (aCons (mVar 3) (aCons (m2 opIx (mPeek 4) (mPeek 2)) aNil))) [some ⟨false, lookD L⟩, some ⟨false, lotD P⟩, some ⟨false, .int (j : Int)⟩, none, none] = .leaf ((P.zip L).map fun x => fr (x.1 * x.2.getD j 0)) := by
    refine mLc_at (L := P.zip L) (dx := fun z => .tup [fr z.1, lotD z.2]) (by rw [zip_at (d := lotD P) (d' := lookD L) (by simp only [mDef, En.start, oSeq, oIf, oRet, oSet, oOwn, putOwn_z, putOwn_s, oPar, oNx, oFail, oEx, _root_.R.m2, _root_.R.m1, _root_.R.mA, aCons, aNil, _root_.R.mB, _root_.R.mC, mCh, _root_.R.mT, mNot, mAnd, mOr, mAndV, mOrV, mNotV, mIf, mTup, mLst, mList, asB_b, allS_leaf, wipe_n, wipe_c, wset_z, wset_s, tYesM, oAsg, gPut, gTp, gsCons, gsNil, mSeq, seq_l, seq_t, bind_leaf, bind_fail, lineOk_1, lineOk_2, lineOk_3, mPeek_z, mPeek_s, mVar_z, mVar_s, put_z, put_s, opAdd_i, opSub_i, opNeg_i, cLt_i, cLe_i, cGt_i, cGe_i, cEq_i, cNe_i, fAbs_i, fInt_i, fLen_t, fLen_l, ix0, ix1, Bool.false_eq_true, Bool.not_true, Bool.not_false, List.length_cons, List.length_nil, List.map_cons, List.map_nil, List.cons_append, List.nil_append, List.replicate, Nat.reduceAdd, Nat.reduceSub, Nat.zero_add, if_true, if_false, ↓reduceIte]) (by simp only [mDef, En.start, oSeq, oIf, oRet, oSet, oOwn, putOwn_z, putOwn_s, oPar, oNx, oFail, oEx, _root_.R.m2, _root_.R.m1, _root_.R.mA, aCons, aNil, _root_.R.mB, _root_.R.mC, mCh, _root_.R.mT, mNot, mAnd, mOr, mAndV, mOrV, mNotV, mIf, mTup, mLst, mList, asB_b, allS_leaf, wipe_n, wipe_c, wset_z, wset_s, tYesM, oAsg, gPut, gTp, gsCons, gsNil, mSeq, seq_l, seq_t, bind_leaf, bind_fail, lineOk_1, lineOk_2, lineOk_3, mPeek_z, mPeek_s, mVar_z, mVar_s, put_z, put_s, opAdd_i, opSub_i, opNeg_i, cLt_i, cLe_i, cGt_i, cGe_i, cEq_i, cNe_i, fAbs_i, fInt_i, fLen_t, fLen_l, ix0, ix1, Bool.false_eq_true, Bool.not_true, Bool.not_false, List.length_cons, List.length_nil, List.map_cons, List.map_nil, List.cons_append, List.nil_append, List.replicate, Nat.reduceAdd, Nat.reduceSub, Nat.zero_add, if_true, if_false, ↓reduceIte]) (seq_t _) (seq_l _), zip_gen]) (by rw [List.length_zip]; have := hL.l4; omega) fun z hz => ⟨[some ⟨false, lookD L⟩, some ⟨false, lotD P⟩, some ⟨false, .int (j : Int)⟩, some ⟨false, fr z.1⟩, some ⟨false, lotD z.2⟩], by walk_at "ev", rfl, ?_⟩
    have r := hL.rows _ (List.of_mem_zip hz).2
    have k := lot_ix (t := z.2) (j := j) (by rw [r.2]; exact hj)
    have k2 := multiply_fr ((hC.ps _ (List.of_mem_zip hz).1).mono (m := 4000) (by omega)) ((getD_sz (j := j) (n := 40) (by omega) fun q hq => sh_sz (r.1.sh q hq)).mono (m := 4000) (by omega))
    generalize opIx = oi at *
    generalize f_multiply = ft at *
    simp only [mDef, En.start, oSeq, oIf, oRet, oSet, oOwn, putOwn_z, putOwn_s, oPar, oNx, oFail, oEx, _root_.R.m2, _root_.R.m1, _root_.R.mA, aCons, aNil, _root_.R.mB, _root_.R.mC, mCh, _root_.R.mT, mNot, mAnd, mOr, mAndV, mOrV, mNotV, mIf, mTup, mLst, mList, asB_b, allS_leaf, wipe_n, wipe_c, wset_z, wset_s, tYesM, oAsg, gPut, gTp, gsCons, gsNil, mSeq, seq_l, seq_t, bind_leaf, bind_fail, lineOk_1, lineOk_2, lineOk_3, mPeek_z, mPeek_s, mVar_z, mVar_s, put_z, put_s, opAdd_i, opSub_i, opNeg_i, cLt_i, cLe_i, cGt_i, cGe_i, cEq_i, cNe_i, fAbs_i, fInt_i, fLen_t, fLen_l, ix0, ix1, Bool.false_eq_true, Bool.not_true, Bool.not_false, List.length_cons, List.length_nil, List.map_cons, List.map_nil, List.cons_append, List.nil_append, List.replicate, Nat.reduceAdd, Nat.reduceSub, Nat.zero_add, if_true, if_false, ↓reduceIte, k, k2]
  have e : ((ch P L j).map fr) = (P.zip L).map fun x => fr (x.1 * x.2.getD j 0) := by unfold ch; rw [List.map_map]; rfl
  rw [e]
  unfold f_seen_with b_seen_with
  generalize mLc = ml at *
  generalize ((P.zip L).map fun x => fr (x.1 * x.2.getD j 0)) = zs at *
  simp only [mDef, En.start, oSeq, oIf, oRet, oSet, oOwn, putOwn_z, putOwn_s, oPar, oNx, oFail, oEx, _root_.R.m2, _root_.R.m1, _root_.R.mA, aCons, aNil, _root_.R.mB, _root_.R.mC, mCh, _root_.R.mT, mNot, mAnd, mOr, mAndV, mOrV, mNotV, mIf, mTup, mLst, mList, asB_b, allS_leaf, wipe_n, wipe_c, wset_z, wset_s, tYesM, oAsg, gPut, gTp, gsCons, gsNil, mSeq, seq_l, seq_t, bind_leaf, bind_fail, lineOk_1, lineOk_2, lineOk_3, mPeek_z, mPeek_s, mVar_z, mVar_s, put_z, put_s, opAdd_i, opSub_i, opNeg_i, cLt_i, cLe_i, cGt_i, cGe_i, cEq_i, cNe_i, fAbs_i, fInt_i, fLen_t, fLen_l, ix0, ix1, Bool.false_eq_true, Bool.not_true, Bool.not_false, List.length_cons, List.length_nil, List.map_cons, List.map_nil, List.cons_append, List.nil_append, List.replicate, Nat.reduceAdd, Nat.reduceSub, Nat.zero_add, if_true, if_false, ↓reduceIte, c1]
theorem gains_fr (hC : Ch L.length P A) (hL : Lk m L) {b : Bool} {j : Nat} (hj : j < m) : f_gains_at [lookD L, lotD P, mk b (A.map actD), .int (j : Int)] = .leaf (.lst ((gn P L A j).map fr)) := by
  have k1 := seen_fr hC hL hj
  have sq := seq_mk b (A.map actD)
  have c1 : mLc (mSeq (mPeek 2)) [5] (gPut 5) tYesM (mA f_products_sum (aCons (mVar 4) (aCons (mVar 5) aNil))) [some ⟨false, lookD L⟩, some ⟨false, lotD P⟩, some ⟨false, mk b (A.map actD)⟩, some ⟨false, .int (j : Int)⟩, some ⟨false, .lst ((ch P L j).map fr)⟩, none] = .leaf (A.map fun a => fr (dotR (ch P L j) a.2)) := by
    refine mLc_at (L := A) (dx := actD) (by simp only [mDef, En.start, oSeq, oIf, oRet, oSet, oOwn, putOwn_z, putOwn_s, oPar, oNx, oFail, oEx, _root_.R.m2, _root_.R.m1, _root_.R.mA, aCons, aNil, _root_.R.mB, _root_.R.mC, mCh, _root_.R.mT, mNot, mAnd, mOr, mAndV, mOrV, mNotV, mIf, mTup, mLst, mList, asB_b, allS_leaf, wipe_n, wipe_c, wset_z, wset_s, tYesM, oAsg, gPut, gTp, gsCons, gsNil, mSeq, seq_l, seq_t, bind_leaf, bind_fail, lineOk_1, lineOk_2, lineOk_3, mPeek_z, mPeek_s, mVar_z, mVar_s, put_z, put_s, opAdd_i, opSub_i, opNeg_i, cLt_i, cLe_i, cGt_i, cGe_i, cEq_i, cNe_i, fAbs_i, fInt_i, fLen_t, fLen_l, ix0, ix1, Bool.false_eq_true, Bool.not_true, Bool.not_false, List.length_cons, List.length_nil, List.map_cons, List.map_nil, List.cons_append, List.nil_append, List.replicate, Nat.reduceAdd, Nat.reduceSub, Nat.zero_add, if_true, if_false, ↓reduceIte, sq]) (by have := hC.a8; omega) fun a ha => ⟨[some ⟨false, lookD L⟩, some ⟨false, lotD P⟩, some ⟨false, mk b (A.map actD)⟩, some ⟨false, .int (j : Int)⟩, some ⟨false, .lst ((ch P L j).map fr)⟩, some ⟨false, actD a⟩], by walk_at "ev", rfl, ?_⟩
    have k := psum_fr (x := .lst ((ch P L j).map fr)) (y := actD a) (seq_l _) (seq_mk a.1 (a.2.map fr)) (ch_sz hC hL j) (hC.rows a ha) (by have := ch_len hC hL j; omega) (by omega)
    generalize f_products_sum = fp at *
    generalize D.lst ((ch P L j).map fr) = v at *
    simp only [mDef, En.start, oSeq, oIf, oRet, oSet, oOwn, putOwn_z, putOwn_s, oPar, oNx, oFail, oEx, _root_.R.m2, _root_.R.m1, _root_.R.mA, aCons, aNil, _root_.R.mB, _root_.R.mC, mCh, _root_.R.mT, mNot, mAnd, mOr, mAndV, mOrV, mNotV, mIf, mTup, mLst, mList, asB_b, allS_leaf, wipe_n, wipe_c, wset_z, wset_s, tYesM, oAsg, gPut, gTp, gsCons, gsNil, mSeq, seq_l, seq_t, bind_leaf, bind_fail, lineOk_1, lineOk_2, lineOk_3, mPeek_z, mPeek_s, mVar_z, mVar_s, put_z, put_s, opAdd_i, opSub_i, opNeg_i, cLt_i, cLe_i, cGt_i, cGe_i, cEq_i, cNe_i, fAbs_i, fInt_i, fLen_t, fLen_l, ix0, ix1, Bool.false_eq_true, Bool.not_true, Bool.not_false, List.length_cons, List.length_nil, List.map_cons, List.map_nil, List.cons_append, List.nil_append, List.replicate, Nat.reduceAdd, Nat.reduceSub, Nat.zero_add, if_true, if_false, ↓reduceIte, k]
  have e : ((gn P L A j).map fr) = A.map fun a => fr (dotR (ch P L j) a.2) := by unfold gn; rw [List.map_map]; rfl
  rw [e]
  unfold f_gains_at b_gains_at
  generalize mLc = ml at *
  generalize f_seen_with = fs at *
  generalize (A.map fun a => fr (dotR (ch P L j) a.2)) = zs at *
  generalize D.lst ((ch P L j).map fr) = v at *
  simp only [mDef, En.start, oSeq, oIf, oRet, oSet, oOwn, putOwn_z, putOwn_s, oPar, oNx, oFail, oEx, _root_.R.m2, _root_.R.m1, _root_.R.mA, aCons, aNil, _root_.R.mB, _root_.R.mC, mCh, _root_.R.mT, mNot, mAnd, mOr, mAndV, mOrV, mNotV, mIf, mTup, mLst, mList, asB_b, allS_leaf, wipe_n, wipe_c, wset_z, wset_s, tYesM, oAsg, gPut, gTp, gsCons, gsNil, mSeq, seq_l, seq_t, bind_leaf, bind_fail, lineOk_1, lineOk_2, lineOk_3, mPeek_z, mPeek_s, mVar_z, mVar_s, put_z, put_s, opAdd_i, opSub_i, opNeg_i, cLt_i, cLe_i, cGt_i, cGe_i, cEq_i, cNe_i, fAbs_i, fInt_i, fLen_t, fLen_l, ix0, ix1, Bool.false_eq_true, Bool.not_true, Bool.not_false, List.length_cons, List.length_nil, List.map_cons, List.map_nil, List.cons_append, List.nil_append, List.replicate, Nat.reduceAdd, Nat.reduceSub, Nat.zero_add, if_true, if_false, ↓reduceIte, k1, c1]
end
theorem best_loop {g : List Rat} (hg : ∀ q ∈ g, Sz 4000 q) : ∀ (r : List Rat) (k i : Nat) (x y : Option Slot), (∀ q ∈ r, Sz 4000 q) → k + r.length = g.length → i < g.length →
    ∃ x' y', oLoop (gTp 2 (gsCons (gPut 2) (gsCons (gPut 3) gsNil))) (oIf (mT (mA f_is_below (aCons (m2 opIx (mPeek 0) (mPeek 1)) (aCons (mVar 3) aNil)))) (oSet 1 (mVar 2)) oNx) (enumD k (r.map fr)) [some ⟨false, .lst (g.map fr)⟩, some ⟨false, .int (i : Int)⟩, x, y] = .leaf (.nx [some ⟨false, .lst (g.map fr)⟩, some ⟨false, .int ((bIgo g r k i : Nat) : Int)⟩, x', y'])
  | [], k, i, x, y, _, _, _ => ⟨x, y, rfl⟩
  | z :: r, k, i, x, y, hr, hk, hi => by
    have k1 : opIx (.lst (g.map fr)) (.int (i : Int)) = .leaf (fr (g.getD i 0)) := by
      have := ix_mk (b := true) (xs := g.map fr) (k := i) (by rw [List.length_map]; exact hi)
      rw [show mk true (g.map fr) = .lst (g.map fr) from rfl] at this
      rw [this, List.getElem_map, List.getD_eq_getElem?_getD, List.getElem?_eq_getElem hi]
      rfl
    have hgi : Sz 4000 (g.getD i 0) := getD_sz (by omega) hg
    have k2 := below_fr hgi (hr z List.mem_cons_self)
    rw [List.length_cons] at hk
    have hk' : (if g.getD i 0 < z then k else i) < g.length := by split <;> omega
    obtain ⟨x', y', ih⟩ := best_loop hg r (k + 1) (if g.getD i 0 < z then k else i) (some ⟨false, .int (k : Int)⟩) (some ⟨false, fr z⟩) (fun q hq => hr q (List.mem_cons_of_mem _ hq)) (by omega) hk'
    refine ⟨x', y', ?_⟩
    rw [List.map_cons]
    unfold enumD oLoop bIgo
    generalize f_is_below = fb at *
    generalize opIx = oi at *
    simp only [mDef, En.start, oSeq, oIf, oRet, oSet, oOwn, putOwn_z, putOwn_s, oPar, oNx, oFail, oEx, _root_.R.m2, _root_.R.m1, _root_.R.mA, aCons, aNil, _root_.R.mB, _root_.R.mC, mCh, _root_.R.mT, mNot, mAnd, mOr, mAndV, mOrV, mNotV, mIf, mTup, mLst, mList, asB_b, allS_leaf, wipe_n, wipe_c, wset_z, wset_s, tYesM, oAsg, gPut, gTp, gsCons, gsNil, mSeq, seq_l, seq_t, bind_leaf, bind_fail, lineOk_1, lineOk_2, lineOk_3, mPeek_z, mPeek_s, mVar_z, mVar_s, put_z, put_s, opAdd_i, opSub_i, opNeg_i, cLt_i, cLe_i, cGt_i, cGe_i, cEq_i, cNe_i, fAbs_i, fInt_i, fLen_t, fLen_l, ix0, ix1, Bool.false_eq_true, Bool.not_true, Bool.not_false, List.length_cons, List.length_nil, List.map_cons, List.map_nil, List.cons_append, List.nil_append, List.replicate, Nat.reduceAdd, Nat.reduceSub, Nat.zero_add, if_true, if_false, ↓reduceIte, k1, k2]
    by_cases hlt : g.getD i 0 < z
    · rw [if_pos hlt] at ih ⊢
      rw [decide_eq_true hlt]
      simp only [mDef, En.start, oSeq, oIf, oRet, oSet, oOwn, putOwn_z, putOwn_s, oPar, oNx, oFail, oEx, _root_.R.m2, _root_.R.m1, _root_.R.mA, aCons, aNil, _root_.R.mB, _root_.R.mC, mCh, _root_.R.mT, mNot, mAnd, mOr, mAndV, mOrV, mNotV, mIf, mTup, mLst, mList, asB_b, allS_leaf, wipe_n, wipe_c, wset_z, wset_s, tYesM, oAsg, gPut, gTp, gsCons, gsNil, mSeq, seq_l, seq_t, bind_leaf, bind_fail, lineOk_1, lineOk_2, lineOk_3, mPeek_z, mPeek_s, mVar_z, mVar_s, put_z, put_s, opAdd_i, opSub_i, opNeg_i, cLt_i, cLe_i, cGt_i, cGe_i, cEq_i, cNe_i, fAbs_i, fInt_i, fLen_t, fLen_l, ix0, ix1, Bool.false_eq_true, Bool.not_true, Bool.not_false, List.length_cons, List.length_nil, List.map_cons, List.map_nil, List.cons_append, List.nil_append, List.replicate, Nat.reduceAdd, Nat.reduceSub, Nat.zero_add, if_true, if_false, ↓reduceIte]
      exact ih
    · rw [if_neg hlt] at ih ⊢
      rw [decide_eq_false hlt]
      simp only [mDef, En.start, oSeq, oIf, oRet, oSet, oOwn, putOwn_z, putOwn_s, oPar, oNx, oFail, oEx, _root_.R.m2, _root_.R.m1, _root_.R.mA, aCons, aNil, _root_.R.mB, _root_.R.mC, mCh, _root_.R.mT, mNot, mAnd, mOr, mAndV, mOrV, mNotV, mIf, mTup, mLst, mList, asB_b, allS_leaf, wipe_n, wipe_c, wset_z, wset_s, tYesM, oAsg, gPut, gTp, gsCons, gsNil, mSeq, seq_l, seq_t, bind_leaf, bind_fail, lineOk_1, lineOk_2, lineOk_3, mPeek_z, mPeek_s, mVar_z, mVar_s, put_z, put_s, opAdd_i, opSub_i, opNeg_i, cLt_i, cLe_i, cGt_i, cGe_i, cEq_i, cNe_i, fAbs_i, fInt_i, fLen_t, fLen_l, ix0, ix1, Bool.false_eq_true, Bool.not_true, Bool.not_false, List.length_cons, List.length_nil, List.map_cons, List.map_nil, List.cons_append, List.nil_append, List.replicate, Nat.reduceAdd, Nat.reduceSub, Nat.zero_add, if_true, if_false, ↓reduceIte]
      exact ih
theorem best_fr {g : List Rat} (hg : ∀ q ∈ g, Sz 4000 q) (h1 : 1 ≤ g.length) : f_best_of [.lst (g.map fr)] = .leaf (.int ((bI g : Nat) : Int)) := by
  obtain ⟨x', y', k⟩ := best_loop hg g 0 0 none none hg (by omega) (by omega)
  have hs : mEnum (mVar 0) [some ⟨false, .lst (g.map fr)⟩, some ⟨false, .int ((0 : Nat) : Int)⟩, none, none] = .leaf (enumD 0 (g.map fr)) := by
    unfold mEnum
    simp only [mDef, En.start, oSeq, oIf, oRet, oSet, oOwn, putOwn_z, putOwn_s, oPar, oNx, oFail, oEx, _root_.R.m2, _root_.R.m1, _root_.R.mA, aCons, aNil, _root_.R.mB, _root_.R.mC, mCh, _root_.R.mT, mNot, mAnd, mOr, mAndV, mOrV, mNotV, mIf, mTup, mLst, mList, asB_b, allS_leaf, wipe_n, wipe_c, wset_z, wset_s, tYesM, oAsg, gPut, gTp, gsCons, gsNil, mSeq, seq_l, seq_t, bind_leaf, bind_fail, lineOk_1, lineOk_2, lineOk_3, mPeek_z, mPeek_s, mVar_z, mVar_s, put_z, put_s, opAdd_i, opSub_i, opNeg_i, cLt_i, cLe_i, cGt_i, cGe_i, cEq_i, cNe_i, fAbs_i, fInt_i, fLen_t, fLen_l, ix0, ix1, Bool.false_eq_true, Bool.not_true, Bool.not_false, List.length_cons, List.length_nil, List.map_cons, List.map_nil, List.cons_append, List.nil_append, List.replicate, Nat.reduceAdd, Nat.reduceSub, Nat.zero_add, if_true, if_false, ↓reduceIte]
  have hf := for_at hs k
  rw [show ((0 : Nat) : Int) = 0 from rfl] at hf
  unfold f_best_of b_best_of
  rw [show bIgo g g 0 0 = bI g from rfl] at hf
  generalize ((bI g : Nat) : Int) = bi at *
  generalize D.lst (g.map fr) = v at *
  generalize oFor = ff at *
  simp only [mDef, En.start, oSeq, oIf, oRet, oSet, oOwn, putOwn_z, putOwn_s, oPar, oNx, oFail, oEx, _root_.R.m2, _root_.R.m1, _root_.R.mA, aCons, aNil, _root_.R.mB, _root_.R.mC, mCh, _root_.R.mT, mNot, mAnd, mOr, mAndV, mOrV, mNotV, mIf, mTup, mLst, mList, asB_b, allS_leaf, wipe_n, wipe_c, wset_z, wset_s, tYesM, oAsg, gPut, gTp, gsCons, gsNil, mSeq, seq_l, seq_t, bind_leaf, bind_fail, lineOk_1, lineOk_2, lineOk_3, mPeek_z, mPeek_s, mVar_z, mVar_s, put_z, put_s, opAdd_i, opSub_i, opNeg_i, cLt_i, cLe_i, cGt_i, cGe_i, cEq_i, cNe_i, fAbs_i, fInt_i, fLen_t, fLen_l, ix0, ix1, Bool.false_eq_true, Bool.not_true, Bool.not_false, List.length_cons, List.length_nil, List.map_cons, List.map_nil, List.cons_append, List.nil_append, List.replicate, Nat.reduceAdd, Nat.reduceSub, Nat.zero_add, if_true, if_false, ↓reduceIte, hf]
theorem enum_range {f : Nat → D} : ∀ (m k : Nat), enumD k ((List.range' k m).map f) = (List.range' k m).map fun j => .tup [.int (j : Int), f j]
  | 0, k => rfl
  | m + 1, k => by
    rw [List.range'_succ, List.map_cons, List.map_cons]
    unfold enumD
    rw [enum_range m (k + 1)]
section
variable {m : Nat} {P : List Rat} {L : List (List Rat)} {A : List (Bool × List Rat)}
theorem worth_fr (hC : Ch L.length P A) (hL : Lk m L) {b : Bool} : f_worth_of [lookD L, lotD P, mk b (A.map actD)] = .leaf (fr (wo P L A m)) := by
  have s1 := signs_fr hL
  have m8 := hL.m8.2
  have gl : ∀ j, 1 ≤ (gn P L A j).length := fun j => by rw [gn_len]; exact hC.a1
  have p1 : f_plan_of [lookD L, lotD P, mk b (A.map actD)] = .leaf (.lst ((List.range m).map fun j => .int ((bI (gn P L A j) : Nat) : Int))) := by
    have c1 : mLc (mRange1 (mA f_signs_of (aCons (mVar 0) aNil))) [3] (gPut 3) tYesM (mA f_best_of (aCons (mA f_gains_at (aCons (mVar 0) (aCons (mVar 1) (aCons (mVar 2) (aCons (mVar 3) aNil))))) aNil)) [some ⟨false, lookD L⟩, some ⟨false, lotD P⟩, some ⟨false, mk b (A.map actD)⟩, none] = .leaf ((List.range m).map fun j => .int ((bI (gn P L A j) : Nat) : Int)) := by
      refine mLc_at (L := List.range m) (dx := fun i : Nat => .int (i : Int)) (range1_at (by
        generalize f_signs_of = fs at *
        simp only [mDef, En.start, oSeq, oIf, oRet, oSet, oOwn, putOwn_z, putOwn_s, oPar, oNx, oFail, oEx, _root_.R.m2, _root_.R.m1, _root_.R.mA, aCons, aNil, _root_.R.mB, _root_.R.mC, mCh, _root_.R.mT, mNot, mAnd, mOr, mAndV, mOrV, mNotV, mIf, mTup, mLst, mList, asB_b, allS_leaf, wipe_n, wipe_c, wset_z, wset_s, tYesM, oAsg, gPut, gTp, gsCons, gsNil, mSeq, seq_l, seq_t, bind_leaf, bind_fail, lineOk_1, lineOk_2, lineOk_3, mPeek_z, mPeek_s, mVar_z, mVar_s, put_z, put_s, opAdd_i, opSub_i, opNeg_i, cLt_i, cLe_i, cGt_i, cGe_i, cEq_i, cNe_i, fAbs_i, fInt_i, fLen_t, fLen_l, ix0, ix1, Bool.false_eq_true, Bool.not_true, Bool.not_false, List.length_cons, List.length_nil, List.map_cons, List.map_nil, List.cons_append, List.nil_append, List.replicate, Nat.reduceAdd, Nat.reduceSub, Nat.zero_add, if_true, if_false, ↓reduceIte, s1]) (by omega)) (by rw [List.length_range]; omega) fun j hj => ⟨[some ⟨false, lookD L⟩, some ⟨false, lotD P⟩, some ⟨false, mk b (A.map actD)⟩, some ⟨false, .int (j : Int)⟩], by walk_at "ev", rfl, ?_⟩
      have k1 := gains_fr hC hL (b := b) (List.mem_range.mp hj)
      have k2 := best_fr (fun q hq => (gn_sz hC hL j q hq).mono (m := 4000) (by omega)) (gl j)
      generalize f_gains_at = fg at *
      generalize f_best_of = fb at *
      generalize D.lst ((gn P L A j).map fr) = v at *
      simp only [mDef, En.start, oSeq, oIf, oRet, oSet, oOwn, putOwn_z, putOwn_s, oPar, oNx, oFail, oEx, _root_.R.m2, _root_.R.m1, _root_.R.mA, aCons, aNil, _root_.R.mB, _root_.R.mC, mCh, _root_.R.mT, mNot, mAnd, mOr, mAndV, mOrV, mNotV, mIf, mTup, mLst, mList, asB_b, allS_leaf, wipe_n, wipe_c, wset_z, wset_s, tYesM, oAsg, gPut, gTp, gsCons, gsNil, mSeq, seq_l, seq_t, bind_leaf, bind_fail, lineOk_1, lineOk_2, lineOk_3, mPeek_z, mPeek_s, mVar_z, mVar_s, put_z, put_s, opAdd_i, opSub_i, opNeg_i, cLt_i, cLe_i, cGt_i, cGe_i, cEq_i, cNe_i, fAbs_i, fInt_i, fLen_t, fLen_l, ix0, ix1, Bool.false_eq_true, Bool.not_true, Bool.not_false, List.length_cons, List.length_nil, List.map_cons, List.map_nil, List.cons_append, List.nil_append, List.replicate, Nat.reduceAdd, Nat.reduceSub, Nat.zero_add, if_true, if_false, ↓reduceIte, k1, k2]
    unfold f_plan_of b_plan_of
    generalize mLc = ml at *
    generalize ((List.range m).map fun j => D.int ((bI (gn P L A j) : Nat) : Int)) = zs at *
    simp only [mDef, En.start, oSeq, oIf, oRet, oSet, oOwn, putOwn_z, putOwn_s, oPar, oNx, oFail, oEx, _root_.R.m2, _root_.R.m1, _root_.R.mA, aCons, aNil, _root_.R.mB, _root_.R.mC, mCh, _root_.R.mT, mNot, mAnd, mOr, mAndV, mOrV, mNotV, mIf, mTup, mLst, mList, asB_b, allS_leaf, wipe_n, wipe_c, wset_z, wset_s, tYesM, oAsg, gPut, gTp, gsCons, gsNil, mSeq, seq_l, seq_t, bind_leaf, bind_fail, lineOk_1, lineOk_2, lineOk_3, mPeek_z, mPeek_s, mVar_z, mVar_s, put_z, put_s, opAdd_i, opSub_i, opNeg_i, cLt_i, cLe_i, cGt_i, cGe_i, cEq_i, cNe_i, fAbs_i, fInt_i, fLen_t, fLen_l, ix0, ix1, Bool.false_eq_true, Bool.not_true, Bool.not_false, List.length_cons, List.length_nil, List.map_cons, List.map_nil, List.cons_append, List.nil_append, List.replicate, Nat.reduceAdd, Nat.reduceSub, Nat.zero_add, if_true, if_false, ↓reduceIte, c1]
  have w1 : f_worth_by [lookD L, lotD P, mk b (A.map actD), .lst ((List.range m).map fun j => .int ((bI (gn P L A j) : Nat) : Int))] = .leaf (fr (wo P L A m)) := by
    have c1 : mLc (mEnum (mPeek 3)) [4, 5] (gTp 2 (gsCons (gPut 4) (gsCons (gPut 5) gsNil))) tYesM (m2 opIx (mA f_gains_at (aCons (mVar 0) (aCons (mVar 1) (aCons (mVar 2) (aCons (mVar 4) aNil))))) (mPeek 5)) [some ⟨false, lookD L⟩, some ⟨false, lotD P⟩, some ⟨false, mk b (A.map actD)⟩, some ⟨false, .lst ((List.range m).map fun j => .int ((bI (gn P L A j) : Nat) : Int))⟩, none, none] = .leaf ((List.range m).map fun j => fr (mxR (gn P L A j))) := by
      refine mLc_at (L := List.range m) (dx := fun j : Nat => .tup [.int (j : Int), .int ((bI (gn P L A j) : Nat) : Int)]) (by
        unfold mEnum
        simp only [mDef, En.start, oSeq, oIf, oRet, oSet, oOwn, putOwn_z, putOwn_s, oPar, oNx, oFail, oEx, _root_.R.m2, _root_.R.m1, _root_.R.mA, aCons, aNil, _root_.R.mB, _root_.R.mC, mCh, _root_.R.mT, mNot, mAnd, mOr, mAndV, mOrV, mNotV, mIf, mTup, mLst, mList, asB_b, allS_leaf, wipe_n, wipe_c, wset_z, wset_s, tYesM, oAsg, gPut, gTp, gsCons, gsNil, mSeq, seq_l, seq_t, bind_leaf, bind_fail, lineOk_1, lineOk_2, lineOk_3, mPeek_z, mPeek_s, mVar_z, mVar_s, put_z, put_s, opAdd_i, opSub_i, opNeg_i, cLt_i, cLe_i, cGt_i, cGe_i, cEq_i, cNe_i, fAbs_i, fInt_i, fLen_t, fLen_l, ix0, ix1, Bool.false_eq_true, Bool.not_true, Bool.not_false, List.length_cons, List.length_nil, List.map_cons, List.map_nil, List.cons_append, List.nil_append, List.replicate, Nat.reduceAdd, Nat.reduceSub, Nat.zero_add, if_true, if_false, ↓reduceIte]
        rw [List.range_eq_range', enum_range]) (by rw [List.length_range]; omega) fun j hj => ⟨[some ⟨false, lookD L⟩, some ⟨false, lotD P⟩, some ⟨false, mk b (A.map actD)⟩, some ⟨false, .lst ((List.range m).map fun j => .int ((bI (gn P L A j) : Nat) : Int))⟩, some ⟨false, .int (j : Int)⟩, some ⟨false, .int ((bI (gn P L A j) : Nat) : Int)⟩], by walk_at "ev", rfl, ?_⟩
      have k1 := gains_fr hC hL (b := b) (List.mem_range.mp hj)
      obtain ⟨hb, hv⟩ := bI_mx (gl j)
      have k2 : opIx (.lst ((gn P L A j).map fr)) (.int ((bI (gn P L A j) : Nat) : Int)) = .leaf (fr (mxR (gn P L A j))) := by
        have := ix_mk (b := true) (xs := (gn P L A j).map fr) (k := bI (gn P L A j)) (by rw [List.length_map]; exact hb)
        rw [show mk true ((gn P L A j).map fr) = .lst ((gn P L A j).map fr) from rfl] at this
        rw [this, List.getElem_map, ← hv, List.getD_eq_getElem?_getD, List.getElem?_eq_getElem hb]
        rfl
      generalize f_gains_at = fg at *
      generalize opIx = oi at *
      generalize D.lst ((gn P L A j).map fr) = v at *
      generalize D.lst ((List.range m).map fun j => D.int ((bI (gn P L A j) : Nat) : Int)) = u at *
      simp only [mDef, En.start, oSeq, oIf, oRet, oSet, oOwn, putOwn_z, putOwn_s, oPar, oNx, oFail, oEx, _root_.R.m2, _root_.R.m1, _root_.R.mA, aCons, aNil, _root_.R.mB, _root_.R.mC, mCh, _root_.R.mT, mNot, mAnd, mOr, mAndV, mOrV, mNotV, mIf, mTup, mLst, mList, asB_b, allS_leaf, wipe_n, wipe_c, wset_z, wset_s, tYesM, oAsg, gPut, gTp, gsCons, gsNil, mSeq, seq_l, seq_t, bind_leaf, bind_fail, lineOk_1, lineOk_2, lineOk_3, mPeek_z, mPeek_s, mVar_z, mVar_s, put_z, put_s, opAdd_i, opSub_i, opNeg_i, cLt_i, cLe_i, cGt_i, cGe_i, cEq_i, cNe_i, fAbs_i, fInt_i, fLen_t, fLen_l, ix0, ix1, Bool.false_eq_true, Bool.not_true, Bool.not_false, List.length_cons, List.length_nil, List.map_cons, List.map_nil, List.cons_append, List.nil_append, List.replicate, Nat.reduceAdd, Nat.reduceSub, Nat.zero_add, if_true, if_false, ↓reduceIte, k1, k2]
    have t1 := total_l (n := 325) ((List.range m).map fun j => mxR (gn P L A j)) (fun q hq => by
      obtain ⟨j, _, rfl⟩ := List.mem_map.mp hq
      exact gn_sz hC hL j _ (mxR_mem (gl j))) (by rw [List.length_map, List.length_range]; omega) (by omega)
    rw [List.map_map] at t1
    have t1 : f_total [.lst ((List.range m).map fun j => fr (mxR (gn P L A j)))] = .leaf (fr (wo P L A m)) := t1
    unfold f_worth_by b_worth_by
    generalize mLc = ml at *
    generalize f_total = ft at *
    generalize ((List.range m).map fun j => fr (mxR (gn P L A j))) = zs at *
    generalize D.lst ((List.range m).map fun j => D.int ((bI (gn P L A j) : Nat) : Int)) = u at *
    simp only [mDef, En.start, oSeq, oIf, oRet, oSet, oOwn, putOwn_z, putOwn_s, oPar, oNx, oFail, oEx, _root_.R.m2, _root_.R.m1, _root_.R.mA, aCons, aNil, _root_.R.mB, _root_.R.mC, mCh, _root_.R.mT, mNot, mAnd, mOr, mAndV, mOrV, mNotV, mIf, mTup, mLst, mList, asB_b, allS_leaf, wipe_n, wipe_c, wset_z, wset_s, tYesM, oAsg, gPut, gTp, gsCons, gsNil, mSeq, seq_l, seq_t, bind_leaf, bind_fail, lineOk_1, lineOk_2, lineOk_3, mPeek_z, mPeek_s, mVar_z, mVar_s, put_z, put_s, opAdd_i, opSub_i, opNeg_i, cLt_i, cLe_i, cGt_i, cGe_i, cEq_i, cNe_i, fAbs_i, fInt_i, fLen_t, fLen_l, ix0, ix1, Bool.false_eq_true, Bool.not_true, Bool.not_false, List.length_cons, List.length_nil, List.map_cons, List.map_nil, List.cons_append, List.nil_append, List.replicate, Nat.reduceAdd, Nat.reduceSub, Nat.zero_add, if_true, if_false, ↓reduceIte, c1, t1]
  unfold f_worth_of b_worth_of
  generalize f_plan_of = fp at *
  generalize f_worth_by = fw at *
  generalize D.lst ((List.range m).map fun j => D.int ((bI (gn P L A j) : Nat) : Int)) = u at *
  simp only [mDef, En.start, oSeq, oIf, oRet, oSet, oOwn, putOwn_z, putOwn_s, oPar, oNx, oFail, oEx, _root_.R.m2, _root_.R.m1, _root_.R.mA, aCons, aNil, _root_.R.mB, _root_.R.mC, mCh, _root_.R.mT, mNot, mAnd, mOr, mAndV, mOrV, mNotV, mIf, mTup, mLst, mList, asB_b, allS_leaf, wipe_n, wipe_c, wset_z, wset_s, tYesM, oAsg, gPut, gTp, gsCons, gsNil, mSeq, seq_l, seq_t, bind_leaf, bind_fail, lineOk_1, lineOk_2, lineOk_3, mPeek_z, mPeek_s, mVar_z, mVar_s, put_z, put_s, opAdd_i, opSub_i, opNeg_i, cLt_i, cLe_i, cGt_i, cGe_i, cEq_i, cNe_i, fAbs_i, fInt_i, fLen_t, fLen_l, ix0, ix1, Bool.false_eq_true, Bool.not_true, Bool.not_false, List.length_cons, List.length_nil, List.map_cons, List.map_nil, List.cons_append, List.nil_append, List.replicate, Nat.reduceAdd, Nat.reduceSub, Nat.zero_add, if_true, if_false, ↓reduceIte, p1, w1]
theorem wo_sz (hC : Ch L.length P A) (hL : Lk m L) : Sz 4000 (wo P L A m) := by
  have m8 := hL.m8.2
  have gl : ∀ j, 1 ≤ (gn P L A j).length := fun j => by rw [gn_len]; exact hC.a1
  refine (sum_sz (n := 325) (by omega) _ fun q hq => ?_).mono (m := 4000) ?_
  · obtain ⟨j, _, rfl⟩ := List.mem_map.mp hq
    exact gn_sz hC hL j _ (mxR_mem (gl j))
  · rw [List.length_map, List.length_range]; omega
end
end Law

set_option maxRecDepth 100000
set_option linter.all false
namespace Law
open R PySem L2
local macro_rules | `(tactic| walk_at "ev") => `(tactic| simp only [mDef, En.start, oSeq, oIf, oRet, oSet, oOwn, putOwn_z, putOwn_s, oPar, oNx, oFail, oEx, m2, m1, mA, aCons, aNil, mB, mC, mCh, mT, mNot, mAnd, mOr, mAndV, mOrV, mNotV, mIf, mTup, mLst, mList, asB_b, allS_leaf, wipe_n, wipe_c, wset_z, wset_s, tYesM, oAsg, gPut, gTp, gsCons, gsNil, mSeq, seq_l, seq_t, bind_leaf, bind_fail, lineOk_1, lineOk_2, lineOk_3, mPeek_z, mPeek_s, mVar_z, mVar_s, put_z, put_s, opAdd_i, opSub_i, opNeg_i, cLt_i, cLe_i, cGt_i, cGe_i, cEq_i, cNe_i, fAbs_i, fInt_i, fLen_t, fLen_l, ix0, ix1, Bool.false_eq_true, Bool.not_true, Bool.not_false,
  List.length_cons, List.length_nil, List.map_cons, List.map_nil, List.cons_append, List.nil_append, List.replicate, Nat.reduceAdd, Nat.reduceSub, Nat.zero_add, if_true, if_false, ↓reduceIte])

/-! ### the law's worths -/
theorem cut_tail (x : D) (r : List D) : opCut (some 1) none (.lst (x :: r)) = .leaf (.lst r) := by
  have := cut_hi (xs := x :: r) (j := 0) (by simp)
  show Tree.leaf (D.lst (cutD (x :: r) (some 1) none)) = _
  rw [show (1 : Int) = ((0 : Nat) : Int) + 1 from rfl, this]
  rfl
theorem great_loop {x0 : Option Slot} : ∀ (r : List Rat) (f : Rat) (y : Option Slot), Sz 4000 f → (∀ q ∈ r, Sz 4000 q) →
    ∃ y', oLoop (gPut 2) (oIf (mT (mA f_law_below (aCons (mVar 1) (aCons (mVar 2) aNil)))) (oSet 1 (mVar 2)) oNx) (r.map fr) [x0, some ⟨false, fr f⟩, y] = .leaf (.nx [x0, some ⟨false, fr (r.foldl mx f)⟩, y'])
  | [], f, y, _, _ => ⟨y, rfl⟩
  | z :: r, f, y, hf, hr => by
    have k := law_below_fr hf (hr z List.mem_cons_self)
    have hm : Sz 4000 (mx f z) := by
      unfold mx
      split
      · exact hr z List.mem_cons_self
      · exact hf
    obtain ⟨y', ih⟩ := great_loop (x0 := x0) r (mx f z) (some ⟨false, fr z⟩) hm fun q hq => hr q (List.mem_cons_of_mem _ hq)
    refine ⟨y', ?_⟩
    rw [List.map_cons, List.foldl_cons]
    unfold oLoop
    generalize f_law_below = fb at *
    simp only [mDef, En.start, oSeq, oIf, oRet, oSet, oOwn, putOwn_z, putOwn_s, oPar, oNx, oFail, oEx, _root_.R.m2, _root_.R.m1, _root_.R.mA, aCons, aNil, _root_.R.mB, _root_.R.mC, mCh, _root_.R.mT, mNot, mAnd, mOr, mAndV, mOrV, mNotV, mIf, mTup, mLst, mList, asB_b, allS_leaf, wipe_n, wipe_c, wset_z, wset_s, tYesM, oAsg, gPut, gTp, gsCons, gsNil, mSeq, seq_l, seq_t, bind_leaf, bind_fail, lineOk_1, lineOk_2, lineOk_3, mPeek_z, mPeek_s, mVar_z, mVar_s, put_z, put_s, opAdd_i, opSub_i, opNeg_i, cLt_i, cLe_i, cGt_i, cGe_i, cEq_i, cNe_i, fAbs_i, fInt_i, fLen_t, fLen_l, ix0, ix1, Bool.false_eq_true, Bool.not_true, Bool.not_false, List.length_cons, List.length_nil, List.map_cons, List.map_nil, List.cons_append, List.nil_append, List.replicate, Nat.reduceAdd, Nat.reduceSub, Nat.zero_add, if_true, if_false, ↓reduceIte, k]
    by_cases hlt : f < z
    · rw [show mx f z = z from if_pos hlt] at ih ⊢
      rw [decide_eq_true hlt]
      simp only [mDef, En.start, oSeq, oIf, oRet, oSet, oOwn, putOwn_z, putOwn_s, oPar, oNx, oFail, oEx, _root_.R.m2, _root_.R.m1, _root_.R.mA, aCons, aNil, _root_.R.mB, _root_.R.mC, mCh, _root_.R.mT, mNot, mAnd, mOr, mAndV, mOrV, mNotV, mIf, mTup, mLst, mList, asB_b, allS_leaf, wipe_n, wipe_c, wset_z, wset_s, tYesM, oAsg, gPut, gTp, gsCons, gsNil, mSeq, seq_l, seq_t, bind_leaf, bind_fail, lineOk_1, lineOk_2, lineOk_3, mPeek_z, mPeek_s, mVar_z, mVar_s, put_z, put_s, opAdd_i, opSub_i, opNeg_i, cLt_i, cLe_i, cGt_i, cGe_i, cEq_i, cNe_i, fAbs_i, fInt_i, fLen_t, fLen_l, ix0, ix1, Bool.false_eq_true, Bool.not_true, Bool.not_false, List.length_cons, List.length_nil, List.map_cons, List.map_nil, List.cons_append, List.nil_append, List.replicate, Nat.reduceAdd, Nat.reduceSub, Nat.zero_add, if_true, if_false, ↓reduceIte]
      exact ih
    · rw [show mx f z = f from if_neg hlt] at ih ⊢
      rw [decide_eq_false hlt]
      simp only [mDef, En.start, oSeq, oIf, oRet, oSet, oOwn, putOwn_z, putOwn_s, oPar, oNx, oFail, oEx, _root_.R.m2, _root_.R.m1, _root_.R.mA, aCons, aNil, _root_.R.mB, _root_.R.mC, mCh, _root_.R.mT, mNot, mAnd, mOr, mAndV, mOrV, mNotV, mIf, mTup, mLst, mList, asB_b, allS_leaf, wipe_n, wipe_c, wset_z, wset_s, tYesM, oAsg, gPut, gTp, gsCons, gsNil, mSeq, seq_l, seq_t, bind_leaf, bind_fail, lineOk_1, lineOk_2, lineOk_3, mPeek_z, mPeek_s, mVar_z, mVar_s, put_z, put_s, opAdd_i, opSub_i, opNeg_i, cLt_i, cLe_i, cGt_i, cGe_i, cEq_i, cNe_i, fAbs_i, fInt_i, fLen_t, fLen_l, ix0, ix1, Bool.false_eq_true, Bool.not_true, Bool.not_false, List.length_cons, List.length_nil, List.map_cons, List.map_nil, List.cons_append, List.nil_append, List.replicate, Nat.reduceAdd, Nat.reduceSub, Nat.zero_add, if_true, if_false, ↓reduceIte]
      exact ih
theorem great_fr {g : List Rat} (hg : ∀ q ∈ g, Sz 4000 q) (h1 : 1 ≤ g.length) : f_law_greatest [.lst (g.map fr)] = .leaf (fr (mxR g)) := by
  cases g with
  | nil => simp at h1
  | cons x r =>
    obtain ⟨y', k⟩ := great_loop (x0 := some ⟨false, .lst ((x :: r).map fr)⟩) r x none (hg x List.mem_cons_self) fun q hq => hg q (List.mem_cons_of_mem _ hq)
    have ct := cut_tail (fr x) (r.map fr)
    rw [← List.map_cons] at ct
    have i0 : opIx (.lst ((x :: r).map fr)) (.int 0) = .leaf (fr x) := ix_mk (b := true) (xs := (x :: r).map fr) (k := 0) (by simp)
    have hs : mSeq (mCut (mPeek 0) (mPart (fun _ => .leaf (.int 1))) (fun _ => .leaf none)) [some ⟨false, .lst ((x :: r).map fr)⟩, some ⟨false, fr x⟩, none] = .leaf (r.map fr) := by
      generalize D.lst ((x :: r).map fr) = v at *
      simp only [mDef, En.start, oSeq, oIf, oRet, oSet, oOwn, putOwn_z, putOwn_s, oPar, oNx, oFail, oEx, _root_.R.m2, _root_.R.m1, _root_.R.mA, aCons, aNil, _root_.R.mB, _root_.R.mC, mCh, _root_.R.mT, mNot, mAnd, mOr, mAndV, mOrV, mNotV, mIf, mTup, mLst, mList, asB_b, allS_leaf, wipe_n, wipe_c, wset_z, wset_s, tYesM, oAsg, gPut, gTp, gsCons, gsNil, mSeq, seq_l, seq_t, bind_leaf, bind_fail, lineOk_1, lineOk_2, lineOk_3, mPeek_z, mPeek_s, mVar_z, mVar_s, put_z, put_s, opAdd_i, opSub_i, opNeg_i, cLt_i, cLe_i, cGt_i, cGe_i, cEq_i, cNe_i, fAbs_i, fInt_i, fLen_t, fLen_l, ix0, ix1, Bool.false_eq_true, Bool.not_true, Bool.not_false, List.length_cons, List.length_nil, List.map_cons, List.map_nil, List.cons_append, List.nil_append, List.replicate, Nat.reduceAdd, Nat.reduceSub, Nat.zero_add, if_true, if_false, ↓reduceIte, mCut, mPart, ct]
    have hf := for_at hs k
    rw [show r.foldl mx x = mxR (x :: r) from rfl] at hf
    unfold f_law_greatest b_law_greatest
    generalize fr (mxR (x :: r)) = z at *
    generalize D.lst ((x :: r).map fr) = v at *
    generalize oFor = ff at *
    generalize opIx = oi at *
    simp only [mDef, En.start, oSeq, oIf, oRet, oSet, oOwn, putOwn_z, putOwn_s, oPar, oNx, oFail, oEx, _root_.R.m2, _root_.R.m1, _root_.R.mA, aCons, aNil, _root_.R.mB, _root_.R.mC, mCh, _root_.R.mT, mNot, mAnd, mOr, mAndV, mOrV, mNotV, mIf, mTup, mLst, mList, asB_b, allS_leaf, wipe_n, wipe_c, wset_z, wset_s, tYesM, oAsg, gPut, gTp, gsCons, gsNil, mSeq, seq_l, seq_t, bind_leaf, bind_fail, lineOk_1, lineOk_2, lineOk_3, mPeek_z, mPeek_s, mVar_z, mVar_s, put_z, put_s, opAdd_i, opSub_i, opNeg_i, cLt_i, cLe_i, cGt_i, cGe_i, cEq_i, cNe_i, fAbs_i, fInt_i, fLen_t, fLen_l, ix0, ix1, Bool.false_eq_true, Bool.not_true, Bool.not_false, List.length_cons, List.length_nil, List.map_cons, List.map_nil, List.cons_append, List.nil_append, List.replicate, Nat.reduceAdd, Nat.reduceSub, Nat.zero_add, if_true, if_false, ↓reduceIte, i0, hf]
theorem app_3 {v : D} {me : En → Tree D} {a b c d e f g h i : Option Slot} {ds : List D} (hv : me [a, b, c, some ⟨true, .lst ds⟩, d, e, f, g, h, i] = .leaf v) (hl : ds.length ≤ 100) : oApp 3 me [a, b, c, some ⟨true, .lst ds⟩, d, e, f, g, h, i] = .leaf (.nx [a, b, c, some ⟨true, .lst (ds ++ [v])⟩, d, e, f, g, h, i]) := by
  show ((me [a, b, c, some ⟨true, .lst ds⟩, d, e, f, g, h, i]).bind fun v => if ds.length < sizeLine then Tree.leaf (Out.nx [a, b, c, some ⟨true, .lst (ds ++ [v])⟩, d, e, f, g, h, i]) else .fail) = _
  rw [hv, bind_leaf, if_pos (Nat.lt_of_le_of_lt hl (by decide))]
section
variable {m : Nat} {P : List Rat} {L : List (List Rat)} {A : List (Bool × List Rat)}
def bW : En → Tree Out := (oSeq (oSet 5 (mList (mLc (mZip (mPeek 1) (mPeek 0)) [6, 7] (gTp 2 (gsCons (gPut 6) (gsCons (gPut 7) gsNil))) tYesM (mA f_law_times (aCons (mVar 6) (aCons (m2 opIx (mPeek 7) (mPeek 4)) aNil))))))
  (oApp 3 (mList (mLc (mSeq (mPeek 2)) [8] (gPut 8) tYesM (mA f_law_sum (aCons (mList (mLc (mZip (mPeek 5) (mPeek 8)) [6, 9] (gTp 2 (gsCons (gPut 6) (gsCons (gPut 9) gsNil))) tYesM (mA f_law_times (aCons (mVar 6) (aCons (mVar 9) aNil))))) aNil))))))
theorem bW_at (hC : Ch L.length P A) (hL : Lk m L) {b : Bool} {j : Nat} (hj : j < m) {ds : List D} (hd : ds.length ≤ 50) {y : Option Slot} : bW [some ⟨false, lookD L⟩, some ⟨false, lotD P⟩, some ⟨false, mk b (A.map actD)⟩, some ⟨true, .lst ds⟩, some ⟨false, .int (j : Int)⟩, y, none, none, none, none] =
    .leaf (.nx [some ⟨false, lookD L⟩, some ⟨false, lotD P⟩, some ⟨false, mk b (A.map actD)⟩, some ⟨true, .lst (ds ++ [.lst ((gn P L A j).map fr)])⟩, some ⟨false, .int (j : Int)⟩, some ⟨false, .lst ((ch P L j).map fr)⟩, none, none, none, none]) := by
  have sq := seq_mk b (A.map actD)
  have c1 : mLc (mZip (mPeek 1) (mPeek 0)) [6, 7] (gTp 2 (gsCons (gPut 6) (gsCons (gPut 7) gsNil))) tYesM (mA f_law_times (aCons (mVar 6) (aCons (m2 opIx (mPeek 7) (mPeek 4)) aNil))) [some ⟨false, lookD L⟩, some ⟨false, lotD P⟩, some ⟨false, mk b (A.map actD)⟩, some ⟨true, .lst ds⟩, some ⟨false, .int (j : Int)⟩, y, none, none, none, none] = .leaf ((P.zip L).map fun x => fr (x.1 * x.2.getD j 0)) := by
    refine mLc_at (L := P.zip L) (dx := fun z => .tup [fr z.1, lotD z.2]) (by rw [zip_at (d := lotD P) (d' := lookD L) (by simp only [mDef, En.start, oSeq, oIf, oRet, oSet, oOwn, putOwn_z, putOwn_s, oPar, oNx, oFail, oEx, _root_.R.m2, _root_.R.m1, _root_.R.mA, aCons, aNil, _root_.R.mB, _root_.R.mC, mCh, _root_.R.mT, mNot, mAnd, mOr, mAndV, mOrV, mNotV, mIf, mTup, mLst, mList, asB_b, allS_leaf, wipe_n, wipe_c, wset_z, wset_s, tYesM, oAsg, gPut, gTp, gsCons, gsNil, mSeq, seq_l, seq_t, bind_leaf, bind_fail, lineOk_1, lineOk_2, lineOk_3, mPeek_z, mPeek_s, mVar_z, mVar_s, put_z, put_s, opAdd_i, opSub_i, opNeg_i, cLt_i, cLe_i, cGt_i, cGe_i, cEq_i, cNe_i, fAbs_i, fInt_i, fLen_t, fLen_l, ix0, ix1, Bool.false_eq_true, Bool.not_true, Bool.not_false, List.length_cons, List.length_nil, List.map_cons, List.map_nil, List.cons_append, List.nil_append, List.replicate, Nat.reduceAdd, Nat.reduceSub, Nat.zero_add, if_true, if_false, ↓reduceIte]) (by simp only [mDef, En.start, oSeq, oIf, oRet, oSet, oOwn, putOwn_z, putOwn_s, oPar, oNx, oFail, oEx, _root_.R.m2, _root_.R.m1, _root_.R.mA, aCons, aNil, _root_.R.mB, _root_.R.mC, mCh, _root_.R.mT, mNot, mAnd, mOr, mAndV, mOrV, mNotV, mIf, mTup, mLst, mList, asB_b, allS_leaf, wipe_n, wipe_c, wset_z, wset_s, tYesM, oAsg, gPut, gTp, gsCons, gsNil, mSeq, seq_l, seq_t, bind_leaf, bind_fail, lineOk_1, lineOk_2, lineOk_3, mPeek_z, mPeek_s, mVar_z, mVar_s, put_z, put_s, opAdd_i, opSub_i, opNeg_i, cLt_i, cLe_i, cGt_i, cGe_i, cEq_i, cNe_i, fAbs_i, fInt_i, fLen_t, fLen_l, ix0, ix1, Bool.false_eq_true, Bool.not_true, Bool.not_false, List.length_cons, List.length_nil, List.map_cons, List.map_nil, List.cons_append, List.nil_append, List.replicate, Nat.reduceAdd, Nat.reduceSub, Nat.zero_add, if_true, if_false, ↓reduceIte]) (seq_t _) (seq_l _), zip_gen]) (by rw [List.length_zip]; have := hL.l4; omega) fun z hz => ⟨[some ⟨false, lookD L⟩, some ⟨false, lotD P⟩, some ⟨false, mk b (A.map actD)⟩, some ⟨true, .lst ds⟩, some ⟨false, .int (j : Int)⟩, y, some ⟨false, fr z.1⟩, some ⟨false, lotD z.2⟩, none, none], by walk_at "ev", rfl, ?_⟩
    have r := hL.rows _ (List.of_mem_zip hz).2
    have k := lot_ix (t := z.2) (j := j) (by rw [r.2]; exact hj)
    have k2 := law_times_fr ((hC.ps _ (List.of_mem_zip hz).1).mono (m := 4000) (by omega)) ((getD_sz (j := j) (n := 40) (by omega) fun q hq => sh_sz (r.1.sh q hq)).mono (m := 4000) (by omega))
    generalize opIx = oi at *
    generalize f_law_times = ft at *
    simp only [mDef, En.start, oSeq, oIf, oRet, oSet, oOwn, putOwn_z, putOwn_s, oPar, oNx, oFail, oEx, _root_.R.m2, _root_.R.m1, _root_.R.mA, aCons, aNil, _root_.R.mB, _root_.R.mC, mCh, _root_.R.mT, mNot, mAnd, mOr, mAndV, mOrV, mNotV, mIf, mTup, mLst, mList, asB_b, allS_leaf, wipe_n, wipe_c, wset_z, wset_s, tYesM, oAsg, gPut, gTp, gsCons, gsNil, mSeq, seq_l, seq_t, bind_leaf, bind_fail, lineOk_1, lineOk_2, lineOk_3, mPeek_z, mPeek_s, mVar_z, mVar_s, put_z, put_s, opAdd_i, opSub_i, opNeg_i, cLt_i, cLe_i, cGt_i, cGe_i, cEq_i, cNe_i, fAbs_i, fInt_i, fLen_t, fLen_l, ix0, ix1, Bool.false_eq_true, Bool.not_true, Bool.not_false, List.length_cons, List.length_nil, List.map_cons, List.map_nil, List.cons_append, List.nil_append, List.replicate, Nat.reduceAdd, Nat.reduceSub, Nat.zero_add, if_true, if_false, ↓reduceIte, k, k2]
  have e : (P.zip L).map (fun x => fr (x.1 * x.2.getD j 0)) = ((ch P L j).map fr) := by unfold ch; rw [List.map_map]; rfl
  rw [e] at c1
  have c2 : mList (mLc (mSeq (mPeek 2)) [8] (gPut 8) tYesM (mA f_law_sum (aCons (mList (mLc (mZip (mPeek 5) (mPeek 8)) [6, 9] (gTp 2 (gsCons (gPut 6) (gsCons (gPut 9) gsNil))) tYesM (mA f_law_times (aCons (mVar 6) (aCons (mVar 9) aNil))))) aNil))) [some ⟨false, lookD L⟩, some ⟨false, lotD P⟩, some ⟨false, mk b (A.map actD)⟩, some ⟨true, .lst ds⟩, some ⟨false, .int (j : Int)⟩, some ⟨false, .lst ((ch P L j).map fr)⟩, none, none, none, none] = .leaf (.lst ((gn P L A j).map fr)) := by
    have e2 : ((gn P L A j).map fr) = A.map fun a => fr (dotR (ch P L j) a.2) := by unfold gn; rw [List.map_map]; rfl
    unfold mList
    rw [mLc_at (L := A) (dx := actD) (f := fun a => fr (dotR (ch P L j) a.2)) (by simp only [mDef, En.start, oSeq, oIf, oRet, oSet, oOwn, putOwn_z, putOwn_s, oPar, oNx, oFail, oEx, _root_.R.m2, _root_.R.m1, _root_.R.mA, aCons, aNil, _root_.R.mB, _root_.R.mC, mCh, _root_.R.mT, mNot, mAnd, mOr, mAndV, mOrV, mNotV, mIf, mTup, mLst, mList, asB_b, allS_leaf, wipe_n, wipe_c, wset_z, wset_s, tYesM, oAsg, gPut, gTp, gsCons, gsNil, mSeq, seq_l, seq_t, bind_leaf, bind_fail, lineOk_1, lineOk_2, lineOk_3, mPeek_z, mPeek_s, mVar_z, mVar_s, put_z, put_s, opAdd_i, opSub_i, opNeg_i, cLt_i, cLe_i, cGt_i, cGe_i, cEq_i, cNe_i, fAbs_i, fInt_i, fLen_t, fLen_l, ix0, ix1, Bool.false_eq_true, Bool.not_true, Bool.not_false, List.length_cons, List.length_nil, List.map_cons, List.map_nil, List.cons_append, List.nil_append, List.replicate, Nat.reduceAdd, Nat.reduceSub, Nat.zero_add, if_true, if_false, ↓reduceIte, sq]) (by have := hC.a8; omega) fun a ha => ⟨[some ⟨false, lookD L⟩, some ⟨false, lotD P⟩, some ⟨false, mk b (A.map actD)⟩, some ⟨true, .lst ds⟩, some ⟨false, .int (j : Int)⟩, some ⟨false, .lst ((ch P L j).map fr)⟩, none, none, some ⟨false, actD a⟩, none], by walk_at "ev", rfl, ?_⟩]
    · rw [bind_leaf, e2]
    · have sa : seqOf (actD a) = .leaf (a.2.map fr) := seq_mk a.1 (a.2.map fr)
      have cl := ch_len hC hL j
      have c3 : mLc (mZip (mPeek 5) (mPeek 8)) [6, 9] (gTp 2 (gsCons (gPut 6) (gsCons (gPut 9) gsNil))) tYesM (mA f_law_times (aCons (mVar 6) (aCons (mVar 9) aNil))) [some ⟨false, lookD L⟩, some ⟨false, lotD P⟩, some ⟨false, mk b (A.map actD)⟩, some ⟨true, .lst ds⟩, some ⟨false, .int (j : Int)⟩, some ⟨false, .lst ((ch P L j).map fr)⟩, none, none, some ⟨false, actD a⟩, none] = .leaf (((ch P L j).zip a.2).map fun z => fr (z.1 * z.2)) := by
        refine mLc_at (L := (ch P L j).zip a.2) (dx := fun z => .tup [fr z.1, fr z.2]) (by rw [zip_at (d := .lst ((ch P L j).map fr)) (d' := actD a) (by simp only [mDef, En.start, oSeq, oIf, oRet, oSet, oOwn, putOwn_z, putOwn_s, oPar, oNx, oFail, oEx, _root_.R.m2, _root_.R.m1, _root_.R.mA, aCons, aNil, _root_.R.mB, _root_.R.mC, mCh, _root_.R.mT, mNot, mAnd, mOr, mAndV, mOrV, mNotV, mIf, mTup, mLst, mList, asB_b, allS_leaf, wipe_n, wipe_c, wset_z, wset_s, tYesM, oAsg, gPut, gTp, gsCons, gsNil, mSeq, seq_l, seq_t, bind_leaf, bind_fail, lineOk_1, lineOk_2, lineOk_3, mPeek_z, mPeek_s, mVar_z, mVar_s, put_z, put_s, opAdd_i, opSub_i, opNeg_i, cLt_i, cLe_i, cGt_i, cGe_i, cEq_i, cNe_i, fAbs_i, fInt_i, fLen_t, fLen_l, ix0, ix1, Bool.false_eq_true, Bool.not_true, Bool.not_false, List.length_cons, List.length_nil, List.map_cons, List.map_nil, List.cons_append, List.nil_append, List.replicate, Nat.reduceAdd, Nat.reduceSub, Nat.zero_add, if_true, if_false, ↓reduceIte]) (by simp only [mDef, En.start, oSeq, oIf, oRet, oSet, oOwn, putOwn_z, putOwn_s, oPar, oNx, oFail, oEx, _root_.R.m2, _root_.R.m1, _root_.R.mA, aCons, aNil, _root_.R.mB, _root_.R.mC, mCh, _root_.R.mT, mNot, mAnd, mOr, mAndV, mOrV, mNotV, mIf, mTup, mLst, mList, asB_b, allS_leaf, wipe_n, wipe_c, wset_z, wset_s, tYesM, oAsg, gPut, gTp, gsCons, gsNil, mSeq, seq_l, seq_t, bind_leaf, bind_fail, lineOk_1, lineOk_2, lineOk_3, mPeek_z, mPeek_s, mVar_z, mVar_s, put_z, put_s, opAdd_i, opSub_i, opNeg_i, cLt_i, cLe_i, cGt_i, cGe_i, cEq_i, cNe_i, fAbs_i, fInt_i, fLen_t, fLen_l, ix0, ix1, Bool.false_eq_true, Bool.not_true, Bool.not_false, List.length_cons, List.length_nil, List.map_cons, List.map_nil, List.cons_append, List.nil_append, List.replicate, Nat.reduceAdd, Nat.reduceSub, Nat.zero_add, if_true, if_false, ↓reduceIte]) (seq_l _) sa, zip_gen]) (by rw [List.length_zip]; omega) fun z hz => ⟨[some ⟨false, lookD L⟩, some ⟨false, lotD P⟩, some ⟨false, mk b (A.map actD)⟩, some ⟨true, .lst ds⟩, some ⟨false, .int (j : Int)⟩, some ⟨false, .lst ((ch P L j).map fr)⟩, some ⟨false, fr z.1⟩, none, some ⟨false, actD a⟩, some ⟨false, fr z.2⟩], by walk_at "ev", rfl, ?_⟩
        have k2 := law_times_fr ((ch_sz hC hL j _ (List.of_mem_zip hz).1).mono (m := 4000) (by omega)) ((hC.rows a ha _ (List.of_mem_zip hz).2).mono (m := 4000) (by omega))
        generalize f_law_times = ft at *
        simp only [mDef, En.start, oSeq, oIf, oRet, oSet, oOwn, putOwn_z, putOwn_s, oPar, oNx, oFail, oEx, _root_.R.m2, _root_.R.m1, _root_.R.mA, aCons, aNil, _root_.R.mB, _root_.R.mC, mCh, _root_.R.mT, mNot, mAnd, mOr, mAndV, mOrV, mNotV, mIf, mTup, mLst, mList, asB_b, allS_leaf, wipe_n, wipe_c, wset_z, wset_s, tYesM, oAsg, gPut, gTp, gsCons, gsNil, mSeq, seq_l, seq_t, bind_leaf, bind_fail, lineOk_1, lineOk_2, lineOk_3, mPeek_z, mPeek_s, mVar_z, mVar_s, put_z, put_s, opAdd_i, opSub_i, opNeg_i, cLt_i, cLe_i, cGt_i, cGe_i, cEq_i, cNe_i, fAbs_i, fInt_i, fLen_t, fLen_l, ix0, ix1, Bool.false_eq_true, Bool.not_true, Bool.not_false, List.length_cons, List.length_nil, List.map_cons, List.map_nil, List.cons_append, List.nil_append, List.replicate, Nat.reduceAdd, Nat.reduceSub, Nat.zero_add, if_true, if_false, ↓reduceIte, k2]
      have k := law_sum_l (((ch P L j).zip a.2).map fun z => z.1 * z.2) (dot_sz (ch_sz hC hL j) (hC.rows a ha)) (by rw [List.length_map, List.length_zip]; omega) (by omega)
      rw [List.map_map] at k
      have k : f_law_sum [.lst (((ch P L j).zip a.2).map fun z => fr (z.1 * z.2))] = .leaf (fr (dotR (ch P L j) a.2)) := k
      generalize f_law_sum = fp at *
      generalize mLc = ml at *
      generalize (((ch P L j).zip a.2).map fun z => fr (z.1 * z.2)) = col at *
      simp only [mDef, En.start, oSeq, oIf, oRet, oSet, oOwn, putOwn_z, putOwn_s, oPar, oNx, oFail, oEx, _root_.R.m2, _root_.R.m1, _root_.R.mA, aCons, aNil, _root_.R.mB, _root_.R.mC, mCh, _root_.R.mT, mNot, mAnd, mOr, mAndV, mOrV, mNotV, mIf, mTup, mLst, mList, asB_b, allS_leaf, wipe_n, wipe_c, wset_z, wset_s, tYesM, oAsg, gPut, gTp, gsCons, gsNil, mSeq, seq_l, seq_t, bind_leaf, bind_fail, lineOk_1, lineOk_2, lineOk_3, mPeek_z, mPeek_s, mVar_z, mVar_s, put_z, put_s, opAdd_i, opSub_i, opNeg_i, cLt_i, cLe_i, cGt_i, cGe_i, cEq_i, cNe_i, fAbs_i, fInt_i, fLen_t, fLen_l, ix0, ix1, Bool.false_eq_true, Bool.not_true, Bool.not_false, List.length_cons, List.length_nil, List.map_cons, List.map_nil, List.cons_append, List.nil_append, List.replicate, Nat.reduceAdd, Nat.reduceSub, Nat.zero_add, if_true, if_false, ↓reduceIte, c3, k]
  have c4 := app_3 c2 (by omega)
  unfold bW
  generalize mLc = ml at *
  generalize oApp = oa at *
  generalize (ch P L j).map fr = cf at *
  simp only [mDef, En.start, oSeq, oIf, oRet, oSet, oOwn, putOwn_z, putOwn_s, oPar, oNx, oFail, oEx, _root_.R.m2, _root_.R.m1, _root_.R.mA, aCons, aNil, _root_.R.mB, _root_.R.mC, mCh, _root_.R.mT, mNot, mAnd, mOr, mAndV, mOrV, mNotV, mIf, mTup, mLst, mList, asB_b, allS_leaf, wipe_n, wipe_c, wset_z, wset_s, tYesM, oAsg, gPut, gTp, gsCons, gsNil, mSeq, seq_l, seq_t, bind_leaf, bind_fail, lineOk_1, lineOk_2, lineOk_3, mPeek_z, mPeek_s, mVar_z, mVar_s, put_z, put_s, opAdd_i, opSub_i, opNeg_i, cLt_i, cLe_i, cGt_i, cGe_i, cEq_i, cNe_i, fAbs_i, fInt_i, fLen_t, fLen_l, ix0, ix1, Bool.false_eq_true, Bool.not_true, Bool.not_false, List.length_cons, List.length_nil, List.map_cons, List.map_nil, List.cons_append, List.nil_append, List.replicate, Nat.reduceAdd, Nat.reduceSub, Nat.zero_add, if_true, if_false, ↓reduceIte, c1]
  exact c4
theorem worths_loop (hC : Ch L.length P A) (hL : Lk m L) {b : Bool} : ∀ (js : List Nat) (ds : List D) (x y : Option Slot), (∀ j ∈ js, j < m) → ds.length + js.length ≤ 50 →
    ∃ x' y', oLoop (gPut 4) bW (js.map fun j : Nat => .int (j : Int)) [some ⟨false, lookD L⟩, some ⟨false, lotD P⟩, some ⟨false, mk b (A.map actD)⟩, some ⟨true, .lst ds⟩, x, y, none, none, none, none] = .leaf (.nx [some ⟨false, lookD L⟩, some ⟨false, lotD P⟩, some ⟨false, mk b (A.map actD)⟩, some ⟨true, .lst (ds ++ js.map fun j => .lst ((gn P L A j).map fr))⟩, x', y', none, none, none, none])
  | [], ds, x, y, _, _ => ⟨x, y, by rw [List.map_nil, List.map_nil, List.append_nil]; rfl⟩
  | j :: js, ds, x, y, h, hl => by
    have k := bW_at hC hL (b := b) (h j List.mem_cons_self) (ds := ds) (y := y) (by omega)
    obtain ⟨x', y', ih⟩ := worths_loop hC hL (b := b) js (ds ++ [.lst ((gn P L A j).map fr)]) (some ⟨false, .int (j : Int)⟩) (some ⟨false, .lst ((ch P L j).map fr)⟩) (fun z hz => h z (List.mem_cons_of_mem _ hz)) (by rw [List.length_append, List.length_singleton]; simp at hl; omega)
    refine ⟨x', y', ?_⟩
    rw [List.map_cons, List.map_cons]
    unfold oLoop
    generalize bW = bw at *
    simp only [mDef, En.start, oSeq, oIf, oRet, oSet, oOwn, putOwn_z, putOwn_s, oPar, oNx, oFail, oEx, _root_.R.m2, _root_.R.m1, _root_.R.mA, aCons, aNil, _root_.R.mB, _root_.R.mC, mCh, _root_.R.mT, mNot, mAnd, mOr, mAndV, mOrV, mNotV, mIf, mTup, mLst, mList, asB_b, allS_leaf, wipe_n, wipe_c, wset_z, wset_s, tYesM, oAsg, gPut, gTp, gsCons, gsNil, mSeq, seq_l, seq_t, bind_leaf, bind_fail, lineOk_1, lineOk_2, lineOk_3, mPeek_z, mPeek_s, mVar_z, mVar_s, put_z, put_s, opAdd_i, opSub_i, opNeg_i, cLt_i, cLe_i, cGt_i, cGe_i, cEq_i, cNe_i, fAbs_i, fInt_i, fLen_t, fLen_l, ix0, ix1, Bool.false_eq_true, Bool.not_true, Bool.not_false, List.length_cons, List.length_nil, List.map_cons, List.map_nil, List.cons_append, List.nil_append, List.replicate, Nat.reduceAdd, Nat.reduceSub, Nat.zero_add, if_true, if_false, ↓reduceIte]
    rw [k, bind_leaf]
    rw [List.append_assoc] at ih
    exact ih
theorem lworths_fr (hC : Ch L.length P A) (hL : Lk m L) {b : Bool} : f_law_worths [lookD L, lotD P, mk b (A.map actD)] = .leaf (.lst ((List.range m).map fun j => .lst ((gn P L A j).map fr))) := by
  obtain ⟨l0, i1, _, i2⟩ := look_first hL
  have m8 := hL.m8.2
  obtain ⟨x', y', k⟩ := worths_loop hC hL (b := b) (List.range m) [] none none (fun j hj => List.mem_range.mp hj) (by rw [List.length_range]; simp; omega)
  rw [List.nil_append] at k
  have hs : mRange1 (mA fLen (aCons (m2 opIx (mPeek 0) (fun _ => .leaf (.int 0))) aNil)) [some ⟨false, lookD L⟩, some ⟨false, lotD P⟩, some ⟨false, mk b (A.map actD)⟩, some ⟨true, .lst []⟩, none, none, none, none, none, none] = .leaf ((List.range m).map fun i : Nat => .int (i : Int)) := by
    refine range1_at ?_ (by omega)
    generalize opIx = oi at *
    generalize fLen = fl at *
    simp only [mDef, En.start, oSeq, oIf, oRet, oSet, oOwn, putOwn_z, putOwn_s, oPar, oNx, oFail, oEx, _root_.R.m2, _root_.R.m1, _root_.R.mA, aCons, aNil, _root_.R.mB, _root_.R.mC, mCh, _root_.R.mT, mNot, mAnd, mOr, mAndV, mOrV, mNotV, mIf, mTup, mLst, mList, asB_b, allS_leaf, wipe_n, wipe_c, wset_z, wset_s, tYesM, oAsg, gPut, gTp, gsCons, gsNil, mSeq, seq_l, seq_t, bind_leaf, bind_fail, lineOk_1, lineOk_2, lineOk_3, mPeek_z, mPeek_s, mVar_z, mVar_s, put_z, put_s, opAdd_i, opSub_i, opNeg_i, cLt_i, cLe_i, cGt_i, cGe_i, cEq_i, cNe_i, fAbs_i, fInt_i, fLen_t, fLen_l, ix0, ix1, Bool.false_eq_true, Bool.not_true, Bool.not_false, List.length_cons, List.length_nil, List.map_cons, List.map_nil, List.cons_append, List.nil_append, List.replicate, Nat.reduceAdd, Nat.reduceSub, Nat.zero_add, if_true, if_false, ↓reduceIte, i1, i2]
  have hf := for_at hs k
  unfold f_law_worths b_law_worths
  rw [show (oSeq (oSet 5 (mList (mLc (mZip (mPeek 1) (mPeek 0)) [6, 7] (gTp 2 (gsCons (gPut 6) (gsCons (gPut 7) gsNil))) tYesM (mA f_law_times (aCons (mVar 6) (aCons (m2 opIx (mPeek 7) (mPeek 4)) aNil))))))
  (oApp 3 (mList (mLc (mSeq (mPeek 2)) [8] (gPut 8) tYesM (mA f_law_sum (aCons (mList (mLc (mZip (mPeek 5) (mPeek 8)) [6, 9] (gTp 2 (gsCons (gPut 6) (gsCons (gPut 9) gsNil))) tYesM (mA f_law_times (aCons (mVar 6) (aCons (mVar 9) aNil))))) aNil)))))) = bW from rfl]
  generalize bW = bw at *
  generalize oFor = ff at *
  generalize ((List.range m).map fun j => D.lst ((gn P L A j).map fr)) = zs at *
  generalize mk b (A.map actD) = v at *
  generalize lookD L = w at *
  generalize lotD P = u at *
  simp only [mDef, En.start, oSeq, oIf, oRet, oSet, oOwn, putOwn_z, putOwn_s, oPar, oNx, oFail, oEx, _root_.R.m2, _root_.R.m1, _root_.R.mA, aCons, aNil, _root_.R.mB, _root_.R.mC, mCh, _root_.R.mT, mNot, mAnd, mOr, mAndV, mOrV, mNotV, mIf, mTup, mLst, mList, asB_b, allS_leaf, wipe_n, wipe_c, wset_z, wset_s, tYesM, oAsg, gPut, gTp, gsCons, gsNil, mSeq, seq_l, seq_t, bind_leaf, bind_fail, lineOk_1, lineOk_2, lineOk_3, mPeek_z, mPeek_s, mVar_z, mVar_s, put_z, put_s, opAdd_i, opSub_i, opNeg_i, cLt_i, cLe_i, cGt_i, cGe_i, cEq_i, cNe_i, fAbs_i, fInt_i, fLen_t, fLen_l, ix0, ix1, Bool.false_eq_true, Bool.not_true, Bool.not_false, List.length_cons, List.length_nil, List.map_cons, List.map_nil, List.cons_append, List.nil_append, List.replicate, Nat.reduceAdd, Nat.reduceSub, Nat.zero_add, if_true, if_false, ↓reduceIte, lineOk_s, Nat.reduceLeDiff, hf, oFrz]
  rfl
theorem lworth_fr (hC : Ch L.length P A) (hL : Lk m L) {b : Bool} : f_law_worth [lookD L, lotD P, mk b (A.map actD)] = .leaf (fr (wo P L A m)) := by
  have m8 := hL.m8.2
  have gl : ∀ j, 1 ≤ (gn P L A j).length := fun j => by rw [gn_len]; exact hC.a1
  have k1 := lworths_fr hC hL (b := b)
  have c1 : mLc (mSeq (mA f_law_worths (aCons (mVar 0) (aCons (mVar 1) (aCons (mVar 2) aNil))))) [3] (gPut 3) tYesM (mA f_law_greatest (aCons (mVar 3) aNil)) [some ⟨false, lookD L⟩, some ⟨false, lotD P⟩, some ⟨false, mk b (A.map actD)⟩, none] = .leaf ((List.range m).map fun j => fr (mxR (gn P L A j))) := by
    refine mLc_at (L := List.range m) (dx := fun j => .lst ((gn P L A j).map fr)) (by
      generalize f_law_worths = fw at *
      simp only [mDef, En.start, oSeq, oIf, oRet, oSet, oOwn, putOwn_z, putOwn_s, oPar, oNx, oFail, oEx, _root_.R.m2, _root_.R.m1, _root_.R.mA, aCons, aNil, _root_.R.mB, _root_.R.mC, mCh, _root_.R.mT, mNot, mAnd, mOr, mAndV, mOrV, mNotV, mIf, mTup, mLst, mList, asB_b, allS_leaf, wipe_n, wipe_c, wset_z, wset_s, tYesM, oAsg, gPut, gTp, gsCons, gsNil, mSeq, seq_l, seq_t, bind_leaf, bind_fail, lineOk_1, lineOk_2, lineOk_3, mPeek_z, mPeek_s, mVar_z, mVar_s, put_z, put_s, opAdd_i, opSub_i, opNeg_i, cLt_i, cLe_i, cGt_i, cGe_i, cEq_i, cNe_i, fAbs_i, fInt_i, fLen_t, fLen_l, ix0, ix1, Bool.false_eq_true, Bool.not_true, Bool.not_false, List.length_cons, List.length_nil, List.map_cons, List.map_nil, List.cons_append, List.nil_append, List.replicate, Nat.reduceAdd, Nat.reduceSub, Nat.zero_add, if_true, if_false, ↓reduceIte, k1]) (by rw [List.length_range]; omega) fun j hj => ⟨[some ⟨false, lookD L⟩, some ⟨false, lotD P⟩, some ⟨false, mk b (A.map actD)⟩, some ⟨false, .lst ((gn P L A j).map fr)⟩], by walk_at "ev", rfl, ?_⟩
    have k2 := great_fr (fun q hq => (gn_sz hC hL j q hq).mono (m := 4000) (by omega)) (gl j)
    generalize f_law_greatest = fg at *
    generalize D.lst ((gn P L A j).map fr) = v at *
    simp only [mDef, En.start, oSeq, oIf, oRet, oSet, oOwn, putOwn_z, putOwn_s, oPar, oNx, oFail, oEx, _root_.R.m2, _root_.R.m1, _root_.R.mA, aCons, aNil, _root_.R.mB, _root_.R.mC, mCh, _root_.R.mT, mNot, mAnd, mOr, mAndV, mOrV, mNotV, mIf, mTup, mLst, mList, asB_b, allS_leaf, wipe_n, wipe_c, wset_z, wset_s, tYesM, oAsg, gPut, gTp, gsCons, gsNil, mSeq, seq_l, seq_t, bind_leaf, bind_fail, lineOk_1, lineOk_2, lineOk_3, mPeek_z, mPeek_s, mVar_z, mVar_s, put_z, put_s, opAdd_i, opSub_i, opNeg_i, cLt_i, cLe_i, cGt_i, cGe_i, cEq_i, cNe_i, fAbs_i, fInt_i, fLen_t, fLen_l, ix0, ix1, Bool.false_eq_true, Bool.not_true, Bool.not_false, List.length_cons, List.length_nil, List.map_cons, List.map_nil, List.cons_append, List.nil_append, List.replicate, Nat.reduceAdd, Nat.reduceSub, Nat.zero_add, if_true, if_false, ↓reduceIte, k2]
  have t1 := law_sum_l (n := 325) ((List.range m).map fun j => mxR (gn P L A j)) (fun q hq => by
    obtain ⟨j, _, rfl⟩ := List.mem_map.mp hq
    exact gn_sz hC hL j _ (mxR_mem (gl j))) (by rw [List.length_map, List.length_range]; omega) (by omega)
  rw [List.map_map] at t1
  have t1 : f_law_sum [.lst ((List.range m).map fun j => fr (mxR (gn P L A j)))] = .leaf (fr (wo P L A m)) := t1
  unfold f_law_worth b_law_worth
  generalize mLc = ml at *
  generalize f_law_sum = ft at *
  generalize ((List.range m).map fun j => fr (mxR (gn P L A j))) = zs at *
  simp only [mDef, En.start, oSeq, oIf, oRet, oSet, oOwn, putOwn_z, putOwn_s, oPar, oNx, oFail, oEx, _root_.R.m2, _root_.R.m1, _root_.R.mA, aCons, aNil, _root_.R.mB, _root_.R.mC, mCh, _root_.R.mT, mNot, mAnd, mOr, mAndV, mOrV, mNotV, mIf, mTup, mLst, mList, asB_b, allS_leaf, wipe_n, wipe_c, wset_z, wset_s, tYesM, oAsg, gPut, gTp, gsCons, gsNil, mSeq, seq_l, seq_t, bind_leaf, bind_fail, lineOk_1, lineOk_2, lineOk_3, mPeek_z, mPeek_s, mVar_z, mVar_s, put_z, put_s, opAdd_i, opSub_i, opNeg_i, cLt_i, cLe_i, cGt_i, cGe_i, cEq_i, cNe_i, fAbs_i, fInt_i, fLen_t, fLen_l, ix0, ix1, Bool.false_eq_true, Bool.not_true, Bool.not_false, List.length_cons, List.length_nil, List.map_cons, List.map_nil, List.cons_append, List.nil_append, List.replicate, Nat.reduceAdd, Nat.reduceSub, Nat.zero_add, if_true, if_false, ↓reduceIte, c1, t1]
end
end Law

set_option maxRecDepth 100000
set_option linter.all false
namespace Law
open R PySem L2
local macro_rules | `(tactic| walk_at "ev") => `(tactic| simp only [mDef, En.start, oSeq, oIf, oRet, oSet, oOwn, putOwn_z, putOwn_s, oPar, oNx, oFail, oEx, m2, m1, mA, aCons, aNil, mB, mC, mCh, mT, mNot, mAnd, mOr, mAndV, mOrV, mNotV, mIf, mTup, mLst, mList, asB_b, allS_leaf, wipe_n, wipe_c, wset_z, wset_s, tYesM, oAsg, gPut, gTp, gsCons, gsNil, mSeq, seq_l, seq_t, bind_leaf, bind_fail, lineOk_1, lineOk_2, lineOk_3, mPeek_z, mPeek_s, mVar_z, mVar_s, put_z, put_s, opAdd_i, opSub_i, opNeg_i, cLt_i, cLe_i, cGt_i, cGe_i, cEq_i, cNe_i, fAbs_i, fInt_i, fLen_t, fLen_l, ix0, ix1, Bool.false_eq_true, Bool.not_true, Bool.not_false,
  List.length_cons, List.length_nil, List.map_cons, List.map_nil, List.cons_append, List.nil_append, List.replicate, Nat.reduceAdd, Nat.reduceSub, Nat.zero_add, if_true, if_false, ↓reduceIte])

/-! ### acts -/
def isSeq : D → Bool
  | .tup _ => true
  | .lst _ => true
  | _ => false
def elems : D → List D
  | .tup xs => xs
  | .lst xs => xs
  | _ => []
theorem islist_any {ls : List Nat} {d : D} (h : bnd ls d = true) : f_is_list [d] = .leaf (.bl (isSeq d)) ∧ f_law_is_list [d] = .leaf (.bl (isSeq d)) := by
  rcases bnd_or h with h1 | ⟨_, _, b, xs, _, rfl⟩
  · have e : isSeq d = false := by cases d <;> first | rfl | cases h1
    rw [e]
    exact ⟨islist_leaf h1, lawlist_leaf h1⟩
  · have e : isSeq (mk b xs) = true := by cases b <;> rfl
    rw [e]
    exact ⟨islist_mk b xs, lawlist_mk b xs⟩
theorem seq_is {d : D} (h : isSeq d = true) : ∃ b, d = mk b (elems d) ∧ fLen [d] = .leaf (.int (lenD d : Int)) ∧ seqOf d = .leaf (elems d) ∧ lenD d = (elems d).length := by
  cases d with
  | tup xs => exact ⟨false, rfl, rfl, seq_t _, rfl⟩
  | lst xs => exact ⟨true, rfl, rfl, seq_l _, rfl⟩
  | _ => cases h
def actsB (s : Nat) (xs : List D) : Bool := decide (1 ≤ xs.length) && (decide (xs.length ≤ 8) && xs.all fun x => isSeq x && ((lenD x == s) && (elems x).all isFrB))
theorem lee (a : Nat) : cLe (.int 1) (.int (a : Int)) = .leaf (decide (1 ≤ a)) := by
  rw [cLe_i]
  congr 1
  exact decide_eq_decide.mpr (by omega)
theorem le8 (a : Nat) : cLe (.int (a : Int)) (.int 8) = .leaf (decide (a ≤ 8)) := by
  rw [cLe_i]
  congr 1
  exact decide_eq_decide.mpr (by omega)
structure Ax (xs : List D) : Prop where
  l : xs.length ≤ 8
  b : ∀ x ∈ xs, bnd [5, 3, 2] x = true
theorem Ax.el {xs : List D} (h : Ax xs) {x : D} (hx : x ∈ xs) : (elems x).length ≤ 5 ∧ ∀ y ∈ elems x, numD (8 + 2) y = true := by
  rcases bnd_or (h.b x hx) with h1 | ⟨_, _, b, ys, e, rfl⟩
  · cases x <;> first | exact ⟨Nat.zero_le _, fun y hy => nomatch hy⟩ | cases h1
  · cases e
    obtain ⟨a, c⟩ := bnd_mk.mp (h.b _ hx)
    have e : elems (Law.mk b ys) = ys := by cases b <;> rfl
    rw [e]
    exact ⟨a, fun y hy => num_bnd (by decide) (c y hy)⟩
theorem acts1 {s : Nat} {b : Bool} {xs : List D} (hA : Ax xs) : f_are_acts [.int (s : Int), mk b xs, .fn 0] = .leaf (.bl (actsB s xs)) := by
  have k1 := islist_mk b xs
  have k2 := len_mk b xs
  have sq := seq_mk b xs
  have e1 := lee xs.length
  have e8 := le8 xs.length
  have c1 : mLc (mSeq (mPeek 1)) [3] (gPut 3) tYesM (mAndV (mA f_is_list (aCons (mVar 3) aNil)) (mB (mC cEq (mA fLen (aCons (mPeek 3) aNil)) (mPeek 0)))) [some ⟨false, .int (s : Int)⟩, some ⟨false, mk b xs⟩, some ⟨false, .fn 0⟩, none, none] = .leaf (xs.map fun x => .bl (isSeq x && (lenD x == s))) := by
    refine mLc_at (L := xs) (dx := id) (f := fun x => .bl (isSeq x && (lenD x == s))) (by simp only [mDef, En.start, oSeq, oIf, oRet, oSet, oOwn, putOwn_z, putOwn_s, oPar, oNx, oFail, oEx, _root_.R.m2, _root_.R.m1, _root_.R.mA, aCons, aNil, _root_.R.mB, _root_.R.mC, mCh, _root_.R.mT, mNot, mAnd, mOr, mAndV, mOrV, mNotV, mIf, mTup, mLst, mList, asB_b, allS_leaf, wipe_n, wipe_c, wset_z, wset_s, tYesM, oAsg, gPut, gTp, gsCons, gsNil, mSeq, seq_l, seq_t, bind_leaf, bind_fail, lineOk_1, lineOk_2, lineOk_3, mPeek_z, mPeek_s, mVar_z, mVar_s, put_z, put_s, opAdd_i, opSub_i, opNeg_i, cLt_i, cLe_i, cGt_i, cGe_i, cEq_i, cNe_i, fAbs_i, fInt_i, fLen_t, fLen_l, ix0, ix1, Bool.false_eq_true, Bool.not_true, Bool.not_false, List.length_cons, List.length_nil, List.map_cons, List.map_nil, List.cons_append, List.nil_append, List.replicate, Nat.reduceAdd, Nat.reduceSub, Nat.zero_add, if_true, if_false, ↓reduceIte, sq, List.map_id]) (by have := hA.l; omega) fun x hx => ⟨[some ⟨false, .int (s : Int)⟩, some ⟨false, mk b xs⟩, some ⟨false, .fn 0⟩, some ⟨false, x⟩, none], by simp only [mDef, En.start, oSeq, oIf, oRet, oSet, oOwn, putOwn_z, putOwn_s, oPar, oNx, oFail, oEx, _root_.R.m2, _root_.R.m1, _root_.R.mA, aCons, aNil, _root_.R.mB, _root_.R.mC, mCh, _root_.R.mT, mNot, mAnd, mOr, mAndV, mOrV, mNotV, mIf, mTup, mLst, mList, asB_b, allS_leaf, wipe_n, wipe_c, wset_z, wset_s, tYesM, oAsg, gPut, gTp, gsCons, gsNil, mSeq, seq_l, seq_t, bind_leaf, bind_fail, lineOk_1, lineOk_2, lineOk_3, mPeek_z, mPeek_s, mVar_z, mVar_s, put_z, put_s, opAdd_i, opSub_i, opNeg_i, cLt_i, cLe_i, cGt_i, cGe_i, cEq_i, cNe_i, fAbs_i, fInt_i, fLen_t, fLen_l, ix0, ix1, Bool.false_eq_true, Bool.not_true, Bool.not_false, List.length_cons, List.length_nil, List.map_cons, List.map_nil, List.cons_append, List.nil_append, List.replicate, Nat.reduceAdd, Nat.reduceSub, Nat.zero_add, if_true, if_false, ↓reduceIte]; rfl, rfl, ?_⟩
    have k := (islist_any (hA.b x hx)).1
    cases e : isSeq x
    · rw [e] at k
      generalize f_is_list = f1 at *
      simp only [mDef, En.start, oSeq, oIf, oRet, oSet, oOwn, putOwn_z, putOwn_s, oPar, oNx, oFail, oEx, _root_.R.m2, _root_.R.m1, _root_.R.mA, aCons, aNil, _root_.R.mB, _root_.R.mC, mCh, _root_.R.mT, mNot, mAnd, mOr, mAndV, mOrV, mNotV, mIf, mTup, mLst, mList, asB_b, allS_leaf, wipe_n, wipe_c, wset_z, wset_s, tYesM, oAsg, gPut, gTp, gsCons, gsNil, mSeq, seq_l, seq_t, bind_leaf, bind_fail, lineOk_1, lineOk_2, lineOk_3, mPeek_z, mPeek_s, mVar_z, mVar_s, put_z, put_s, opAdd_i, opSub_i, opNeg_i, cLt_i, cLe_i, cGt_i, cGe_i, cEq_i, cNe_i, fAbs_i, fInt_i, fLen_t, fLen_l, ix0, ix1, Bool.false_eq_true, Bool.not_true, Bool.not_false, List.length_cons, List.length_nil, List.map_cons, List.map_nil, List.cons_append, List.nil_append, List.replicate, Nat.reduceAdd, Nat.reduceSub, Nat.zero_add, if_true, if_false, ↓reduceIte, k]
      rfl
    · obtain ⟨_, _, q1, _⟩ := seq_is e
      have q2 := cEq_nat (lenD x) s
      rw [e] at k
      generalize f_is_list = f1 at *
      generalize fLen = f2 at *
      generalize cEq = f3 at *
      simp only [mDef, En.start, oSeq, oIf, oRet, oSet, oOwn, putOwn_z, putOwn_s, oPar, oNx, oFail, oEx, _root_.R.m2, _root_.R.m1, _root_.R.mA, aCons, aNil, _root_.R.mB, _root_.R.mC, mCh, _root_.R.mT, mNot, mAnd, mOr, mAndV, mOrV, mNotV, mIf, mTup, mLst, mList, asB_b, allS_leaf, wipe_n, wipe_c, wset_z, wset_s, tYesM, oAsg, gPut, gTp, gsCons, gsNil, mSeq, seq_l, seq_t, bind_leaf, bind_fail, lineOk_1, lineOk_2, lineOk_3, mPeek_z, mPeek_s, mVar_z, mVar_s, put_z, put_s, opAdd_i, opSub_i, opNeg_i, cLt_i, cLe_i, cGt_i, cGe_i, cEq_i, cNe_i, fAbs_i, fInt_i, fLen_t, fLen_l, ix0, ix1, Bool.false_eq_true, Bool.not_true, Bool.not_false, List.length_cons, List.length_nil, List.map_cons, List.map_nil, List.cons_append, List.nil_append, List.replicate, Nat.reduceAdd, Nat.reduceSub, Nat.zero_add, if_true, if_false, ↓reduceIte, k, q1, q2]
      rfl
  have a1 := all_bl (fun x => isSeq x && (lenD x == s)) xs
  have c2 : (xs.all fun x => isSeq x && (lenD x == s)) = true → mLc (mSeq (mPeek 1)) [3] (gPut 3) tYesM (mA fAll (aCons (mList (mLc (mSeq (mPeek 3)) [4] (gPut 4) tYesM (mCallV 2 [f_is_fraction_of, f_is_lot_of, f_is_short_lot] (aCons (mVar 4) aNil)))) aNil)) [some ⟨false, .int (s : Int)⟩, some ⟨false, mk b xs⟩, some ⟨false, .fn 0⟩, none, none] = .leaf (xs.map fun x => .bl ((elems x).all isFrB)) := fun hall => by
    refine mLc_at (L := xs) (dx := id) (f := fun x => .bl ((elems x).all isFrB)) (by simp only [mDef, En.start, oSeq, oIf, oRet, oSet, oOwn, putOwn_z, putOwn_s, oPar, oNx, oFail, oEx, _root_.R.m2, _root_.R.m1, _root_.R.mA, aCons, aNil, _root_.R.mB, _root_.R.mC, mCh, _root_.R.mT, mNot, mAnd, mOr, mAndV, mOrV, mNotV, mIf, mTup, mLst, mList, asB_b, allS_leaf, wipe_n, wipe_c, wset_z, wset_s, tYesM, oAsg, gPut, gTp, gsCons, gsNil, mSeq, seq_l, seq_t, bind_leaf, bind_fail, lineOk_1, lineOk_2, lineOk_3, mPeek_z, mPeek_s, mVar_z, mVar_s, put_z, put_s, opAdd_i, opSub_i, opNeg_i, cLt_i, cLe_i, cGt_i, cGe_i, cEq_i, cNe_i, fAbs_i, fInt_i, fLen_t, fLen_l, ix0, ix1, Bool.false_eq_true, Bool.not_true, Bool.not_false, List.length_cons, List.length_nil, List.map_cons, List.map_nil, List.cons_append, List.nil_append, List.replicate, Nat.reduceAdd, Nat.reduceSub, Nat.zero_add, if_true, if_false, ↓reduceIte, sq, List.map_id]) (by have := hA.l; omega) fun x hx => ⟨[some ⟨false, .int (s : Int)⟩, some ⟨false, mk b xs⟩, some ⟨false, .fn 0⟩, some ⟨false, x⟩, none], by simp only [mDef, En.start, oSeq, oIf, oRet, oSet, oOwn, putOwn_z, putOwn_s, oPar, oNx, oFail, oEx, _root_.R.m2, _root_.R.m1, _root_.R.mA, aCons, aNil, _root_.R.mB, _root_.R.mC, mCh, _root_.R.mT, mNot, mAnd, mOr, mAndV, mOrV, mNotV, mIf, mTup, mLst, mList, asB_b, allS_leaf, wipe_n, wipe_c, wset_z, wset_s, tYesM, oAsg, gPut, gTp, gsCons, gsNil, mSeq, seq_l, seq_t, bind_leaf, bind_fail, lineOk_1, lineOk_2, lineOk_3, mPeek_z, mPeek_s, mVar_z, mVar_s, put_z, put_s, opAdd_i, opSub_i, opNeg_i, cLt_i, cLe_i, cGt_i, cGe_i, cEq_i, cNe_i, fAbs_i, fInt_i, fLen_t, fLen_l, ix0, ix1, Bool.false_eq_true, Bool.not_true, Bool.not_false, List.length_cons, List.length_nil, List.map_cons, List.map_nil, List.cons_append, List.nil_append, List.replicate, Nat.reduceAdd, Nat.reduceSub, Nat.zero_add, if_true, if_false, ↓reduceIte]; rfl, rfl, ?_⟩
    have hs := List.all_eq_true.mp hall x hx
    rw [Bool.and_eq_true] at hs
    obtain ⟨_, _, _, q2, _⟩ := seq_is hs.1
    obtain ⟨l5, hn⟩ := hA.el hx
    have c3 : mLc (mSeq (mPeek 3)) [4] (gPut 4) tYesM (mCallV 2 [f_is_fraction_of, f_is_lot_of, f_is_short_lot] (aCons (mVar 4) aNil)) [some ⟨false, .int (s : Int)⟩, some ⟨false, mk b xs⟩, some ⟨false, .fn 0⟩, some ⟨false, x⟩, none] = .leaf ((elems x).map fun y => .bl (isFrB y)) := by
      refine mLc_at (L := elems x) (dx := id) (f := fun y => .bl (isFrB y)) (by simp only [mDef, En.start, oSeq, oIf, oRet, oSet, oOwn, putOwn_z, putOwn_s, oPar, oNx, oFail, oEx, _root_.R.m2, _root_.R.m1, _root_.R.mA, aCons, aNil, _root_.R.mB, _root_.R.mC, mCh, _root_.R.mT, mNot, mAnd, mOr, mAndV, mOrV, mNotV, mIf, mTup, mLst, mList, asB_b, allS_leaf, wipe_n, wipe_c, wset_z, wset_s, tYesM, oAsg, gPut, gTp, gsCons, gsNil, mSeq, seq_l, seq_t, bind_leaf, bind_fail, lineOk_1, lineOk_2, lineOk_3, mPeek_z, mPeek_s, mVar_z, mVar_s, put_z, put_s, opAdd_i, opSub_i, opNeg_i, cLt_i, cLe_i, cGt_i, cGe_i, cEq_i, cNe_i, fAbs_i, fInt_i, fLen_t, fLen_l, ix0, ix1, Bool.false_eq_true, Bool.not_true, Bool.not_false, List.length_cons, List.length_nil, List.map_cons, List.map_nil, List.cons_append, List.nil_append, List.replicate, Nat.reduceAdd, Nat.reduceSub, Nat.zero_add, if_true, if_false, ↓reduceIte, q2, List.map_id]) (by omega) fun y hy => ⟨[some ⟨false, .int (s : Int)⟩, some ⟨false, mk b xs⟩, some ⟨false, .fn 0⟩, some ⟨false, x⟩, some ⟨false, y⟩], by simp only [mDef, En.start, oSeq, oIf, oRet, oSet, oOwn, putOwn_z, putOwn_s, oPar, oNx, oFail, oEx, _root_.R.m2, _root_.R.m1, _root_.R.mA, aCons, aNil, _root_.R.mB, _root_.R.mC, mCh, _root_.R.mT, mNot, mAnd, mOr, mAndV, mOrV, mNotV, mIf, mTup, mLst, mList, asB_b, allS_leaf, wipe_n, wipe_c, wset_z, wset_s, tYesM, oAsg, gPut, gTp, gsCons, gsNil, mSeq, seq_l, seq_t, bind_leaf, bind_fail, lineOk_1, lineOk_2, lineOk_3, mPeek_z, mPeek_s, mVar_z, mVar_s, put_z, put_s, opAdd_i, opSub_i, opNeg_i, cLt_i, cLe_i, cGt_i, cGe_i, cEq_i, cNe_i, fAbs_i, fInt_i, fLen_t, fLen_l, ix0, ix1, Bool.false_eq_true, Bool.not_true, Bool.not_false, List.length_cons, List.length_nil, List.map_cons, List.map_nil, List.cons_append, List.nil_append, List.replicate, Nat.reduceAdd, Nat.reduceSub, Nat.zero_add, if_true, if_false, ↓reduceIte]; rfl, rfl, ?_⟩
      rw [callv_at (n := 0) rfl]
      have k := (frac_eq (hn y hy)).1
      show (mA f_is_fraction_of (aCons (mVar 4) aNil)) _ = _
      generalize f_is_fraction_of = f1 at *
      simp only [mDef, En.start, oSeq, oIf, oRet, oSet, oOwn, putOwn_z, putOwn_s, oPar, oNx, oFail, oEx, _root_.R.m2, _root_.R.m1, _root_.R.mA, aCons, aNil, _root_.R.mB, _root_.R.mC, mCh, _root_.R.mT, mNot, mAnd, mOr, mAndV, mOrV, mNotV, mIf, mTup, mLst, mList, asB_b, allS_leaf, wipe_n, wipe_c, wset_z, wset_s, tYesM, oAsg, gPut, gTp, gsCons, gsNil, mSeq, seq_l, seq_t, bind_leaf, bind_fail, lineOk_1, lineOk_2, lineOk_3, mPeek_z, mPeek_s, mVar_z, mVar_s, put_z, put_s, opAdd_i, opSub_i, opNeg_i, cLt_i, cLe_i, cGt_i, cGe_i, cEq_i, cNe_i, fAbs_i, fInt_i, fLen_t, fLen_l, ix0, ix1, Bool.false_eq_true, Bool.not_true, Bool.not_false, List.length_cons, List.length_nil, List.map_cons, List.map_nil, List.cons_append, List.nil_append, List.replicate, Nat.reduceAdd, Nat.reduceSub, Nat.zero_add, if_true, if_false, ↓reduceIte, k]
    have a3 := all_bl isFrB (elems x)
    generalize ((elems x).map fun y => D.bl (isFrB y)) = ys at *
    generalize fAll = f2 at *
    generalize mLc = ml at *
    simp only [mDef, En.start, oSeq, oIf, oRet, oSet, oOwn, putOwn_z, putOwn_s, oPar, oNx, oFail, oEx, _root_.R.m2, _root_.R.m1, _root_.R.mA, aCons, aNil, _root_.R.mB, _root_.R.mC, mCh, _root_.R.mT, mNot, mAnd, mOr, mAndV, mOrV, mNotV, mIf, mTup, mLst, mList, asB_b, allS_leaf, wipe_n, wipe_c, wset_z, wset_s, tYesM, oAsg, gPut, gTp, gsCons, gsNil, mSeq, seq_l, seq_t, bind_leaf, bind_fail, lineOk_1, lineOk_2, lineOk_3, mPeek_z, mPeek_s, mVar_z, mVar_s, put_z, put_s, opAdd_i, opSub_i, opNeg_i, cLt_i, cLe_i, cGt_i, cGe_i, cEq_i, cNe_i, fAbs_i, fInt_i, fLen_t, fLen_l, ix0, ix1, Bool.false_eq_true, Bool.not_true, Bool.not_false, List.length_cons, List.length_nil, List.map_cons, List.map_nil, List.cons_append, List.nil_append, List.replicate, Nat.reduceAdd, Nat.reduceSub, Nat.zero_add, if_true, if_false, ↓reduceIte, c3, a3]
  have a2 := all_bl (fun x => (elems x).all isFrB) xs
  have eB : actsB s xs = (decide (1 ≤ xs.length) && (decide (xs.length ≤ 8) && ((xs.all fun x => isSeq x && (lenD x == s)) && xs.all fun x => (elems x).all isFrB))) := by
    unfold actsB
    congr 2
    rw [Bool.eq_iff_iff, Bool.and_eq_true, List.all_eq_true, List.all_eq_true, List.all_eq_true]
    constructor
    · intro h
      refine ⟨fun x hx => ?_, fun x hx => ?_⟩
      · have := h x hx
        simp only [Bool.and_eq_true] at this ⊢
        exact ⟨this.1, this.2.1⟩
      · have := h x hx
        simp only [Bool.and_eq_true] at this
        exact this.2.2
    · intro h x hx
      have h1 := h.1 x hx
      have h2 := h.2 x hx
      simp only [Bool.and_eq_true] at h1 ⊢
      exact ⟨h1.1, h1.2, h2⟩
  rw [eB, decide_eq_true hA.l]
  rw [decide_eq_true hA.l] at e8
  clear eB hA
  by_cases hl : 1 ≤ xs.length
  · rw [decide_eq_true hl] at e1 ⊢
    by_cases hall : (xs.all fun x => isSeq x && (lenD x == s)) = true
    · have c2 := c2 hall
      rw [hall] at a1 ⊢
      clear hall hl sq
      unfold f_are_acts b_are_acts
      generalize (xs.map fun x => D.bl (isSeq x && (lenD x == s))) = us at *
      generalize (xs.map fun x => D.bl ((elems x).all isFrB)) = ws at *
      generalize (xs.length : Int) = n at *
      generalize mk b xs = v at *
      generalize f_is_list = f1 at *
      generalize fLen = f2 at *
      generalize cLe = f3 at *
      generalize fAll = f4 at *
      generalize mLc = f5 at *
      simp only [mDef, En.start, oSeq, oIf, oRet, oSet, oOwn, putOwn_z, putOwn_s, oPar, oNx, oFail, oEx, _root_.R.m2, _root_.R.m1, _root_.R.mA, aCons, aNil, _root_.R.mB, _root_.R.mC, mCh, _root_.R.mT, mNot, mAnd, mOr, mAndV, mOrV, mNotV, mIf, mTup, mLst, mList, asB_b, allS_leaf, wipe_n, wipe_c, wset_z, wset_s, tYesM, oAsg, gPut, gTp, gsCons, gsNil, mSeq, seq_l, seq_t, bind_leaf, bind_fail, lineOk_1, lineOk_2, lineOk_3, mPeek_z, mPeek_s, mVar_z, mVar_s, put_z, put_s, opAdd_i, opSub_i, opNeg_i, cLt_i, cLe_i, cGt_i, cGe_i, cEq_i, cNe_i, fAbs_i, fInt_i, fLen_t, fLen_l, ix0, ix1, Bool.false_eq_true, Bool.not_true, Bool.not_false, List.length_cons, List.length_nil, List.map_cons, List.map_nil, List.cons_append, List.nil_append, List.replicate, Nat.reduceAdd, Nat.reduceSub, Nat.zero_add, if_true, if_false, ↓reduceIte, k1, k2, e1, e8, c1, a1, c2, a2, Bool.true_and]
    · rw [Bool.eq_false_iff.mpr hall] at a1 ⊢
      clear c2 hall hl sq
      unfold f_are_acts b_are_acts
      generalize (xs.map fun x => D.bl (isSeq x && (lenD x == s))) = us at *
      generalize (xs.length : Int) = n at *
      generalize mk b xs = v at *
      generalize f_is_list = f1 at *
      generalize fLen = f2 at *
      generalize cLe = f3 at *
      generalize fAll = f4 at *
      generalize mLc = f5 at *
      simp only [mDef, En.start, oSeq, oIf, oRet, oSet, oOwn, putOwn_z, putOwn_s, oPar, oNx, oFail, oEx, _root_.R.m2, _root_.R.m1, _root_.R.mA, aCons, aNil, _root_.R.mB, _root_.R.mC, mCh, _root_.R.mT, mNot, mAnd, mOr, mAndV, mOrV, mNotV, mIf, mTup, mLst, mList, asB_b, allS_leaf, wipe_n, wipe_c, wset_z, wset_s, tYesM, oAsg, gPut, gTp, gsCons, gsNil, mSeq, seq_l, seq_t, bind_leaf, bind_fail, lineOk_1, lineOk_2, lineOk_3, mPeek_z, mPeek_s, mVar_z, mVar_s, put_z, put_s, opAdd_i, opSub_i, opNeg_i, cLt_i, cLe_i, cGt_i, cGe_i, cEq_i, cNe_i, fAbs_i, fInt_i, fLen_t, fLen_l, ix0, ix1, Bool.false_eq_true, Bool.not_true, Bool.not_false, List.length_cons, List.length_nil, List.map_cons, List.map_nil, List.cons_append, List.nil_append, List.replicate, Nat.reduceAdd, Nat.reduceSub, Nat.zero_add, if_true, if_false, ↓reduceIte, k1, k2, e1, e8, c1, a1, Bool.true_and, Bool.false_and]
  · rw [decide_eq_false hl] at e1 ⊢
    clear c2 hl sq c1 a1 a2
    unfold f_are_acts b_are_acts
    generalize (xs.length : Int) = n at *
    generalize mk b xs = v at *
    generalize f_is_list = f1 at *
    generalize fLen = f2 at *
    generalize cLe = f3 at *
    simp only [mDef, En.start, oSeq, oIf, oRet, oSet, oOwn, putOwn_z, putOwn_s, oPar, oNx, oFail, oEx, _root_.R.m2, _root_.R.m1, _root_.R.mA, aCons, aNil, _root_.R.mB, _root_.R.mC, mCh, _root_.R.mT, mNot, mAnd, mOr, mAndV, mOrV, mNotV, mIf, mTup, mLst, mList, asB_b, allS_leaf, wipe_n, wipe_c, wset_z, wset_s, tYesM, oAsg, gPut, gTp, gsCons, gsNil, mSeq, seq_l, seq_t, bind_leaf, bind_fail, lineOk_1, lineOk_2, lineOk_3, mPeek_z, mPeek_s, mVar_z, mVar_s, put_z, put_s, opAdd_i, opSub_i, opNeg_i, cLt_i, cLe_i, cGt_i, cGe_i, cEq_i, cNe_i, fAbs_i, fInt_i, fLen_t, fLen_l, ix0, ix1, Bool.false_eq_true, Bool.not_true, Bool.not_false, List.length_cons, List.length_nil, List.map_cons, List.map_nil, List.cons_append, List.nil_append, List.replicate, Nat.reduceAdd, Nat.reduceSub, Nat.zero_add, if_true, if_false, ↓reduceIte, k1, k2, e1, Bool.false_and]
theorem acts2 {s : Nat} {b : Bool} {xs : List D} (hA : Ax xs) : f_law_are_acts [mk b xs, .int (s : Int)] = .leaf (.bl (actsB s xs)) := by
  have k1 := lawlist_mk b xs
  have k2 := len_mk b xs
  have sq := seq_mk b xs
  have e1 := lee xs.length
  have e8 := le8 xs.length
  have c1 : mLc (mSeq (mPeek 0)) [2] (gPut 2) tYesM (mAndV (mA f_law_is_list (aCons (mVar 2) aNil)) (mAndV (mB (mC cEq (mA fLen (aCons (mPeek 2) aNil)) (mPeek 1))) (mA fAll (aCons (mList (mLc (mSeq (mPeek 2)) [3] (gPut 3) tYesM (mA f_law_is_fraction (aCons (mVar 3) aNil)))) aNil)))) [some ⟨false, mk b xs⟩, some ⟨false, .int (s : Int)⟩, none, none] = .leaf (xs.map fun x => .bl (isSeq x && ((lenD x == s) && (elems x).all isFrB))) := by
    refine mLc_at (L := xs) (dx := id) (f := fun x => .bl (isSeq x && ((lenD x == s) && (elems x).all isFrB))) (by simp only [mDef, En.start, oSeq, oIf, oRet, oSet, oOwn, putOwn_z, putOwn_s, oPar, oNx, oFail, oEx, _root_.R.m2, _root_.R.m1, _root_.R.mA, aCons, aNil, _root_.R.mB, _root_.R.mC, mCh, _root_.R.mT, mNot, mAnd, mOr, mAndV, mOrV, mNotV, mIf, mTup, mLst, mList, asB_b, allS_leaf, wipe_n, wipe_c, wset_z, wset_s, tYesM, oAsg, gPut, gTp, gsCons, gsNil, mSeq, seq_l, seq_t, bind_leaf, bind_fail, lineOk_1, lineOk_2, lineOk_3, mPeek_z, mPeek_s, mVar_z, mVar_s, put_z, put_s, opAdd_i, opSub_i, opNeg_i, cLt_i, cLe_i, cGt_i, cGe_i, cEq_i, cNe_i, fAbs_i, fInt_i, fLen_t, fLen_l, ix0, ix1, Bool.false_eq_true, Bool.not_true, Bool.not_false, List.length_cons, List.length_nil, List.map_cons, List.map_nil, List.cons_append, List.nil_append, List.replicate, Nat.reduceAdd, Nat.reduceSub, Nat.zero_add, if_true, if_false, ↓reduceIte, sq, List.map_id]) (by have := hA.l; omega) fun x hx => ⟨[some ⟨false, mk b xs⟩, some ⟨false, .int (s : Int)⟩, some ⟨false, x⟩, none], by simp only [mDef, En.start, oSeq, oIf, oRet, oSet, oOwn, putOwn_z, putOwn_s, oPar, oNx, oFail, oEx, _root_.R.m2, _root_.R.m1, _root_.R.mA, aCons, aNil, _root_.R.mB, _root_.R.mC, mCh, _root_.R.mT, mNot, mAnd, mOr, mAndV, mOrV, mNotV, mIf, mTup, mLst, mList, asB_b, allS_leaf, wipe_n, wipe_c, wset_z, wset_s, tYesM, oAsg, gPut, gTp, gsCons, gsNil, mSeq, seq_l, seq_t, bind_leaf, bind_fail, lineOk_1, lineOk_2, lineOk_3, mPeek_z, mPeek_s, mVar_z, mVar_s, put_z, put_s, opAdd_i, opSub_i, opNeg_i, cLt_i, cLe_i, cGt_i, cGe_i, cEq_i, cNe_i, fAbs_i, fInt_i, fLen_t, fLen_l, ix0, ix1, Bool.false_eq_true, Bool.not_true, Bool.not_false, List.length_cons, List.length_nil, List.map_cons, List.map_nil, List.cons_append, List.nil_append, List.replicate, Nat.reduceAdd, Nat.reduceSub, Nat.zero_add, if_true, if_false, ↓reduceIte]; rfl, rfl, ?_⟩
    have k := (islist_any (hA.b x hx)).2
    cases e : isSeq x
    · rw [e] at k
      generalize f_law_is_list = f1 at *
      simp only [mDef, En.start, oSeq, oIf, oRet, oSet, oOwn, putOwn_z, putOwn_s, oPar, oNx, oFail, oEx, _root_.R.m2, _root_.R.m1, _root_.R.mA, aCons, aNil, _root_.R.mB, _root_.R.mC, mCh, _root_.R.mT, mNot, mAnd, mOr, mAndV, mOrV, mNotV, mIf, mTup, mLst, mList, asB_b, allS_leaf, wipe_n, wipe_c, wset_z, wset_s, tYesM, oAsg, gPut, gTp, gsCons, gsNil, mSeq, seq_l, seq_t, bind_leaf, bind_fail, lineOk_1, lineOk_2, lineOk_3, mPeek_z, mPeek_s, mVar_z, mVar_s, put_z, put_s, opAdd_i, opSub_i, opNeg_i, cLt_i, cLe_i, cGt_i, cGe_i, cEq_i, cNe_i, fAbs_i, fInt_i, fLen_t, fLen_l, ix0, ix1, Bool.false_eq_true, Bool.not_true, Bool.not_false, List.length_cons, List.length_nil, List.map_cons, List.map_nil, List.cons_append, List.nil_append, List.replicate, Nat.reduceAdd, Nat.reduceSub, Nat.zero_add, if_true, if_false, ↓reduceIte, k]
      rfl
    · obtain ⟨_, _, q1, q2, _⟩ := seq_is e
      have q3 := cEq_nat (lenD x) s
      rw [e] at k
      cases e3 : (lenD x == s)
      · rw [e3] at q3
        generalize f_law_is_list = f1 at *
        generalize fLen = f2 at *
        generalize cEq = f3 at *
        simp only [mDef, En.start, oSeq, oIf, oRet, oSet, oOwn, putOwn_z, putOwn_s, oPar, oNx, oFail, oEx, _root_.R.m2, _root_.R.m1, _root_.R.mA, aCons, aNil, _root_.R.mB, _root_.R.mC, mCh, _root_.R.mT, mNot, mAnd, mOr, mAndV, mOrV, mNotV, mIf, mTup, mLst, mList, asB_b, allS_leaf, wipe_n, wipe_c, wset_z, wset_s, tYesM, oAsg, gPut, gTp, gsCons, gsNil, mSeq, seq_l, seq_t, bind_leaf, bind_fail, lineOk_1, lineOk_2, lineOk_3, mPeek_z, mPeek_s, mVar_z, mVar_s, put_z, put_s, opAdd_i, opSub_i, opNeg_i, cLt_i, cLe_i, cGt_i, cGe_i, cEq_i, cNe_i, fAbs_i, fInt_i, fLen_t, fLen_l, ix0, ix1, Bool.false_eq_true, Bool.not_true, Bool.not_false, List.length_cons, List.length_nil, List.map_cons, List.map_nil, List.cons_append, List.nil_append, List.replicate, Nat.reduceAdd, Nat.reduceSub, Nat.zero_add, if_true, if_false, ↓reduceIte, k, q1, q3]
        rfl
      · rw [e3] at q3
        obtain ⟨l5, hn⟩ := hA.el hx
        have c3 : mLc (mSeq (mPeek 2)) [3] (gPut 3) tYesM (mA f_law_is_fraction (aCons (mVar 3) aNil)) [some ⟨false, mk b xs⟩, some ⟨false, .int (s : Int)⟩, some ⟨false, x⟩, none] = .leaf ((elems x).map fun y => .bl (isFrB y)) := by
          refine mLc_at (L := elems x) (dx := id) (f := fun y => .bl (isFrB y)) (by simp only [mDef, En.start, oSeq, oIf, oRet, oSet, oOwn, putOwn_z, putOwn_s, oPar, oNx, oFail, oEx, _root_.R.m2, _root_.R.m1, _root_.R.mA, aCons, aNil, _root_.R.mB, _root_.R.mC, mCh, _root_.R.mT, mNot, mAnd, mOr, mAndV, mOrV, mNotV, mIf, mTup, mLst, mList, asB_b, allS_leaf, wipe_n, wipe_c, wset_z, wset_s, tYesM, oAsg, gPut, gTp, gsCons, gsNil, mSeq, seq_l, seq_t, bind_leaf, bind_fail, lineOk_1, lineOk_2, lineOk_3, mPeek_z, mPeek_s, mVar_z, mVar_s, put_z, put_s, opAdd_i, opSub_i, opNeg_i, cLt_i, cLe_i, cGt_i, cGe_i, cEq_i, cNe_i, fAbs_i, fInt_i, fLen_t, fLen_l, ix0, ix1, Bool.false_eq_true, Bool.not_true, Bool.not_false, List.length_cons, List.length_nil, List.map_cons, List.map_nil, List.cons_append, List.nil_append, List.replicate, Nat.reduceAdd, Nat.reduceSub, Nat.zero_add, if_true, if_false, ↓reduceIte, q2, List.map_id]) (by omega) fun y hy => ⟨[some ⟨false, mk b xs⟩, some ⟨false, .int (s : Int)⟩, some ⟨false, x⟩, some ⟨false, y⟩], by simp only [mDef, En.start, oSeq, oIf, oRet, oSet, oOwn, putOwn_z, putOwn_s, oPar, oNx, oFail, oEx, _root_.R.m2, _root_.R.m1, _root_.R.mA, aCons, aNil, _root_.R.mB, _root_.R.mC, mCh, _root_.R.mT, mNot, mAnd, mOr, mAndV, mOrV, mNotV, mIf, mTup, mLst, mList, asB_b, allS_leaf, wipe_n, wipe_c, wset_z, wset_s, tYesM, oAsg, gPut, gTp, gsCons, gsNil, mSeq, seq_l, seq_t, bind_leaf, bind_fail, lineOk_1, lineOk_2, lineOk_3, mPeek_z, mPeek_s, mVar_z, mVar_s, put_z, put_s, opAdd_i, opSub_i, opNeg_i, cLt_i, cLe_i, cGt_i, cGe_i, cEq_i, cNe_i, fAbs_i, fInt_i, fLen_t, fLen_l, ix0, ix1, Bool.false_eq_true, Bool.not_true, Bool.not_false, List.length_cons, List.length_nil, List.map_cons, List.map_nil, List.cons_append, List.nil_append, List.replicate, Nat.reduceAdd, Nat.reduceSub, Nat.zero_add, if_true, if_false, ↓reduceIte]; rfl, rfl, ?_⟩
          have k := (frac_eq (hn y hy)).2
          generalize f_law_is_fraction = f1 at *
          simp only [mDef, En.start, oSeq, oIf, oRet, oSet, oOwn, putOwn_z, putOwn_s, oPar, oNx, oFail, oEx, _root_.R.m2, _root_.R.m1, _root_.R.mA, aCons, aNil, _root_.R.mB, _root_.R.mC, mCh, _root_.R.mT, mNot, mAnd, mOr, mAndV, mOrV, mNotV, mIf, mTup, mLst, mList, asB_b, allS_leaf, wipe_n, wipe_c, wset_z, wset_s, tYesM, oAsg, gPut, gTp, gsCons, gsNil, mSeq, seq_l, seq_t, bind_leaf, bind_fail, lineOk_1, lineOk_2, lineOk_3, mPeek_z, mPeek_s, mVar_z, mVar_s, put_z, put_s, opAdd_i, opSub_i, opNeg_i, cLt_i, cLe_i, cGt_i, cGe_i, cEq_i, cNe_i, fAbs_i, fInt_i, fLen_t, fLen_l, ix0, ix1, Bool.false_eq_true, Bool.not_true, Bool.not_false, List.length_cons, List.length_nil, List.map_cons, List.map_nil, List.cons_append, List.nil_append, List.replicate, Nat.reduceAdd, Nat.reduceSub, Nat.zero_add, if_true, if_false, ↓reduceIte, k]
        have a3 := all_bl isFrB (elems x)
        generalize ((elems x).map fun y => D.bl (isFrB y)) = ys at *
        generalize (elems x).all isFrB = bb at *
        generalize fAll = f2 at *
        generalize mLc = ml at *
        generalize f_law_is_list = f1 at *
        generalize fLen = f2' at *
        generalize cEq = f3 at *
        simp only [mDef, En.start, oSeq, oIf, oRet, oSet, oOwn, putOwn_z, putOwn_s, oPar, oNx, oFail, oEx, _root_.R.m2, _root_.R.m1, _root_.R.mA, aCons, aNil, _root_.R.mB, _root_.R.mC, mCh, _root_.R.mT, mNot, mAnd, mOr, mAndV, mOrV, mNotV, mIf, mTup, mLst, mList, asB_b, allS_leaf, wipe_n, wipe_c, wset_z, wset_s, tYesM, oAsg, gPut, gTp, gsCons, gsNil, mSeq, seq_l, seq_t, bind_leaf, bind_fail, lineOk_1, lineOk_2, lineOk_3, mPeek_z, mPeek_s, mVar_z, mVar_s, put_z, put_s, opAdd_i, opSub_i, opNeg_i, cLt_i, cLe_i, cGt_i, cGe_i, cEq_i, cNe_i, fAbs_i, fInt_i, fLen_t, fLen_l, ix0, ix1, Bool.false_eq_true, Bool.not_true, Bool.not_false, List.length_cons, List.length_nil, List.map_cons, List.map_nil, List.cons_append, List.nil_append, List.replicate, Nat.reduceAdd, Nat.reduceSub, Nat.zero_add, if_true, if_false, ↓reduceIte, k, q1, q3, c3, a3]
        rfl
  have a1 := all_bl (fun x => isSeq x && ((lenD x == s) && (elems x).all isFrB)) xs
  unfold actsB
  rw [decide_eq_true hA.l]
  rw [decide_eq_true hA.l] at e8
  clear hA
  by_cases hl : 1 ≤ xs.length
  · rw [decide_eq_true hl] at e1 ⊢
    clear hl sq
    unfold f_law_are_acts b_law_are_acts
    generalize (xs.map fun x => D.bl (isSeq x && ((lenD x == s) && (elems x).all isFrB))) = us at *
    generalize (xs.length : Int) = n at *
    generalize mk b xs = v at *
    generalize f_law_is_list = f1 at *
    generalize fLen = f2 at *
    generalize cLe = f3 at *
    generalize fAll = f4 at *
    generalize mLc = f5 at *
    simp only [mDef, En.start, oSeq, oIf, oRet, oSet, oOwn, putOwn_z, putOwn_s, oPar, oNx, oFail, oEx, _root_.R.m2, _root_.R.m1, _root_.R.mA, aCons, aNil, _root_.R.mB, _root_.R.mC, mCh, _root_.R.mT, mNot, mAnd, mOr, mAndV, mOrV, mNotV, mIf, mTup, mLst, mList, asB_b, allS_leaf, wipe_n, wipe_c, wset_z, wset_s, tYesM, oAsg, gPut, gTp, gsCons, gsNil, mSeq, seq_l, seq_t, bind_leaf, bind_fail, lineOk_1, lineOk_2, lineOk_3, mPeek_z, mPeek_s, mVar_z, mVar_s, put_z, put_s, opAdd_i, opSub_i, opNeg_i, cLt_i, cLe_i, cGt_i, cGe_i, cEq_i, cNe_i, fAbs_i, fInt_i, fLen_t, fLen_l, ix0, ix1, Bool.false_eq_true, Bool.not_true, Bool.not_false, List.length_cons, List.length_nil, List.map_cons, List.map_nil, List.cons_append, List.nil_append, List.replicate, Nat.reduceAdd, Nat.reduceSub, Nat.zero_add, if_true, if_false, ↓reduceIte, k1, k2, e1, e8, c1, a1, Bool.true_and]
  · rw [decide_eq_false hl] at e1 ⊢
    clear hl sq c1 a1
    unfold f_law_are_acts b_law_are_acts
    generalize (xs.length : Int) = n at *
    generalize mk b xs = v at *
    generalize f_law_is_list = f1 at *
    generalize fLen = f2 at *
    generalize cLe = f3 at *
    simp only [mDef, En.start, oSeq, oIf, oRet, oSet, oOwn, putOwn_z, putOwn_s, oPar, oNx, oFail, oEx, _root_.R.m2, _root_.R.m1, _root_.R.mA, aCons, aNil, _root_.R.mB, _root_.R.mC, mCh, _root_.R.mT, mNot, mAnd, mOr, mAndV, mOrV, mNotV, mIf, mTup, mLst, mList, asB_b, allS_leaf, wipe_n, wipe_c, wset_z, wset_s, tYesM, oAsg, gPut, gTp, gsCons, gsNil, mSeq, seq_l, seq_t, bind_leaf, bind_fail, lineOk_1, lineOk_2, lineOk_3, mPeek_z, mPeek_s, mVar_z, mVar_s, put_z, put_s, opAdd_i, opSub_i, opNeg_i, cLt_i, cLe_i, cGt_i, cGe_i, cEq_i, cNe_i, fAbs_i, fInt_i, fLen_t, fLen_l, ix0, ix1, Bool.false_eq_true, Bool.not_true, Bool.not_false, List.length_cons, List.length_nil, List.map_cons, List.map_nil, List.cons_append, List.nil_append, List.replicate, Nat.reduceAdd, Nat.reduceSub, Nat.zero_add, if_true, if_false, ↓reduceIte, k1, k2, e1, Bool.false_and]
theorem acts_leaf {s : Nat} {d : D} (h : leafB d = true) : f_are_acts [.int (s : Int), d, .fn 0] = .leaf (.bl false) ∧ f_law_are_acts [d, .int (s : Int)] = .leaf (.bl false) := by
  have k1 := islist_leaf h
  have k2 := lawlist_leaf h
  refine ⟨?_, ?_⟩
  · unfold f_are_acts b_are_acts
    generalize f_is_list = f1 at *
    simp only [mDef, En.start, oSeq, oIf, oRet, oSet, oOwn, putOwn_z, putOwn_s, oPar, oNx, oFail, oEx, _root_.R.m2, _root_.R.m1, _root_.R.mA, aCons, aNil, _root_.R.mB, _root_.R.mC, mCh, _root_.R.mT, mNot, mAnd, mOr, mAndV, mOrV, mNotV, mIf, mTup, mLst, mList, asB_b, allS_leaf, wipe_n, wipe_c, wset_z, wset_s, tYesM, oAsg, gPut, gTp, gsCons, gsNil, mSeq, seq_l, seq_t, bind_leaf, bind_fail, lineOk_1, lineOk_2, lineOk_3, mPeek_z, mPeek_s, mVar_z, mVar_s, put_z, put_s, opAdd_i, opSub_i, opNeg_i, cLt_i, cLe_i, cGt_i, cGe_i, cEq_i, cNe_i, fAbs_i, fInt_i, fLen_t, fLen_l, ix0, ix1, Bool.false_eq_true, Bool.not_true, Bool.not_false, List.length_cons, List.length_nil, List.map_cons, List.map_nil, List.cons_append, List.nil_append, List.replicate, Nat.reduceAdd, Nat.reduceSub, Nat.zero_add, if_true, if_false, ↓reduceIte, k1]
  · unfold f_law_are_acts b_law_are_acts
    generalize f_law_is_list = f1 at *
    simp only [mDef, En.start, oSeq, oIf, oRet, oSet, oOwn, putOwn_z, putOwn_s, oPar, oNx, oFail, oEx, _root_.R.m2, _root_.R.m1, _root_.R.mA, aCons, aNil, _root_.R.mB, _root_.R.mC, mCh, _root_.R.mT, mNot, mAnd, mOr, mAndV, mOrV, mNotV, mIf, mTup, mLst, mList, asB_b, allS_leaf, wipe_n, wipe_c, wset_z, wset_s, tYesM, oAsg, gPut, gTp, gsCons, gsNil, mSeq, seq_l, seq_t, bind_leaf, bind_fail, lineOk_1, lineOk_2, lineOk_3, mPeek_z, mPeek_s, mVar_z, mVar_s, put_z, put_s, opAdd_i, opSub_i, opNeg_i, cLt_i, cLe_i, cGt_i, cGe_i, cEq_i, cNe_i, fAbs_i, fInt_i, fLen_t, fLen_l, ix0, ix1, Bool.false_eq_true, Bool.not_true, Bool.not_false, List.length_cons, List.length_nil, List.map_cons, List.map_nil, List.cons_append, List.nil_append, List.replicate, Nat.reduceAdd, Nat.reduceSub, Nat.zero_add, if_true, if_false, ↓reduceIte, k2]
theorem acts_of {s : Nat} : ∀ {xs : List D}, (∀ x ∈ xs, isSeq x = true ∧ (∀ y ∈ elems x, numD (8 + 2) y = true) ∧ (elems x).all isFrB = true) → ∃ A : List (Bool × List Rat), xs = A.map actD ∧ ∀ a ∈ A, ∀ q ∈ a.2, Sz 20 q
  | [], _ => ⟨[], rfl, fun _ h => nomatch h⟩
  | x :: xs, h => by
    obtain ⟨a, b, c⟩ := h x List.mem_cons_self
    obtain ⟨A, rfl, hA⟩ := acts_of (s := s) fun y hy => h y (List.mem_cons_of_mem _ hy)
    obtain ⟨bb, e, _⟩ := seq_is a
    obtain ⟨Q, eQ, hQ⟩ := lots_q (elems x) (List.all_eq_true.mpr b) c
    rw [eQ] at e
    exact ⟨(bb, Q) :: A, by rw [List.map_cons]; congr 1, fun a' ha => (List.mem_cons.mp ha).elim (fun e => e ▸ hQ) (hA a')⟩
end Law

set_option maxRecDepth 100000
set_option linter.all false
namespace Law
open R PySem L2
local macro_rules | `(tactic| walk_at "ev") => `(tactic| simp only [mDef, En.start, oSeq, oIf, oRet, oSet, oOwn, putOwn_z, putOwn_s, oPar, oNx, oFail, oEx, m2, m1, mA, aCons, aNil, mB, mC, mCh, mT, mNot, mAnd, mOr, mAndV, mOrV, mNotV, mIf, mTup, mLst, mList, asB_b, allS_leaf, wipe_n, wipe_c, wset_z, wset_s, tYesM, oAsg, gPut, gTp, gsCons, gsNil, mSeq, seq_l, seq_t, bind_leaf, bind_fail, lineOk_1, lineOk_2, lineOk_3, mPeek_z, mPeek_s, mVar_z, mVar_s, put_z, put_s, opAdd_i, opSub_i, opNeg_i, cLt_i, cLe_i, cGt_i, cGe_i, cEq_i, cNe_i, fAbs_i, fInt_i, fLen_t, fLen_l, ix0, ix1, Bool.false_eq_true, Bool.not_true, Bool.not_false,
  List.length_cons, List.length_nil, List.map_cons, List.map_nil, List.cons_append, List.nil_append, List.replicate, Nat.reduceAdd, Nat.reduceSub, Nat.zero_add, if_true, if_false, ↓reduceIte])

theorem isi_leaf2 {d : D} (h : leafB d = true) : fIsi [d, .ty "tuple"] = .leaf (.bl false) := by cases d <;> first | rfl | cases h
theorem better_no {m n : Nat} {L O : List (List Rat)} (hL : Lk m L) (hO : Lk n O) (hlen : L.length = O.length) {d : D} (h : fIsi [d, .ty "tuple"] = .leaf (.bl false)) :
    f_is_better_choice [lookD L, lookD O, d] = .leaf (.bl false) ∧ f_law_is_better [lookD L, lookD O, d] = .leaf (.bl false) := by
  have c0 := checks_fr hL hO hlen
  refine ⟨?_, ?_⟩
  · unfold f_is_better_choice b_is_better_choice
    generalize lookD L = v at *
    generalize lookD O = w at *
    generalize f_check_looks = q1 at *
    generalize fIsi = q2 at *
    simp only [mDef, En.start, oSeq, oIf, oRet, oSet, oOwn, putOwn_z, putOwn_s, oPar, oNx, oFail, oEx, _root_.R.m2, _root_.R.m1, _root_.R.mA, aCons, aNil, _root_.R.mB, _root_.R.mC, mCh, _root_.R.mT, mNot, mAnd, mOr, mAndV, mOrV, mNotV, mIf, mTup, mLst, mList, asB_b, allS_leaf, wipe_n, wipe_c, wset_z, wset_s, tYesM, oAsg, gPut, gTp, gsCons, gsNil, mSeq, seq_l, seq_t, bind_leaf, bind_fail, lineOk_1, lineOk_2, lineOk_3, mPeek_z, mPeek_s, mVar_z, mVar_s, put_z, put_s, opAdd_i, opSub_i, opNeg_i, cLt_i, cLe_i, cGt_i, cGe_i, cEq_i, cNe_i, fAbs_i, fInt_i, fLen_t, fLen_l, ix0, ix1, Bool.false_eq_true, Bool.not_true, Bool.not_false, List.length_cons, List.length_nil, List.map_cons, List.map_nil, List.cons_append, List.nil_append, List.replicate, Nat.reduceAdd, Nat.reduceSub, Nat.zero_add, if_true, if_false, ↓reduceIte, c0, h]
  · unfold f_law_is_better b_law_is_better
    generalize lookD L = v at *
    generalize lookD O = w at *
    generalize fIsi = q2 at *
    simp only [mDef, En.start, oSeq, oIf, oRet, oSet, oOwn, putOwn_z, putOwn_s, oPar, oNx, oFail, oEx, _root_.R.m2, _root_.R.m1, _root_.R.mA, aCons, aNil, _root_.R.mB, _root_.R.mC, mCh, _root_.R.mT, mNot, mAnd, mOr, mAndV, mOrV, mNotV, mIf, mTup, mLst, mList, asB_b, allS_leaf, wipe_n, wipe_c, wset_z, wset_s, tYesM, oAsg, gPut, gTp, gsCons, gsNil, mSeq, seq_l, seq_t, bind_leaf, bind_fail, lineOk_1, lineOk_2, lineOk_3, mPeek_z, mPeek_s, mVar_z, mVar_s, put_z, put_s, opAdd_i, opSub_i, opNeg_i, cLt_i, cLe_i, cGt_i, cGe_i, cEq_i, cNe_i, fAbs_i, fInt_i, fLen_t, fLen_l, ix0, ix1, Bool.false_eq_true, Bool.not_true, Bool.not_false, List.length_cons, List.length_nil, List.map_cons, List.map_nil, List.cons_append, List.nil_append, List.replicate, Nat.reduceAdd, Nat.reduceSub, Nat.zero_add, if_true, if_false, ↓reduceIte, h]
theorem better_len {m n : Nat} {L O : List (List Rat)} (hL : Lk m L) (hO : Lk n O) (hlen : L.length = O.length) {xs : List D} (h : xs.length ≠ 2) :
    f_is_better_choice [lookD L, lookD O, .tup xs] = .leaf (.bl false) ∧ f_law_is_better [lookD L, lookD O, .tup xs] = .leaf (.bl false) := by
  have c0 := checks_fr hL hO hlen
  have k1 : fIsi [.tup xs, .ty "tuple"] = .leaf (.bl true) := rfl
  have k2 := fLen_t xs
  have k3 := cNe_i (xs.length : Int) 2
  rw [show (!((xs.length : Int) == 2)) = true by
    rw [Bool.not_eq_true', beq_eq_false_iff_ne]
    omega] at k3
  generalize (xs.length : Int) = z at *
  generalize D.tup xs = t at *
  refine ⟨?_, ?_⟩
  · unfold f_is_better_choice b_is_better_choice
    generalize lookD L = v at *
    generalize lookD O = w at *
    generalize f_check_looks = q1 at *
    generalize fIsi = q2 at *
    generalize fLen = q3 at *
    generalize cNe = q4 at *
    simp only [mDef, En.start, oSeq, oIf, oRet, oSet, oOwn, putOwn_z, putOwn_s, oPar, oNx, oFail, oEx, _root_.R.m2, _root_.R.m1, _root_.R.mA, aCons, aNil, _root_.R.mB, _root_.R.mC, mCh, _root_.R.mT, mNot, mAnd, mOr, mAndV, mOrV, mNotV, mIf, mTup, mLst, mList, asB_b, allS_leaf, wipe_n, wipe_c, wset_z, wset_s, tYesM, oAsg, gPut, gTp, gsCons, gsNil, mSeq, seq_l, seq_t, bind_leaf, bind_fail, lineOk_1, lineOk_2, lineOk_3, mPeek_z, mPeek_s, mVar_z, mVar_s, put_z, put_s, opAdd_i, opSub_i, opNeg_i, cLt_i, cLe_i, cGt_i, cGe_i, cEq_i, cNe_i, fAbs_i, fInt_i, fLen_t, fLen_l, ix0, ix1, Bool.false_eq_true, Bool.not_true, Bool.not_false, List.length_cons, List.length_nil, List.map_cons, List.map_nil, List.cons_append, List.nil_append, List.replicate, Nat.reduceAdd, Nat.reduceSub, Nat.zero_add, if_true, if_false, ↓reduceIte, c0, k1, k2, k3]
  · unfold f_law_is_better b_law_is_better
    generalize lookD L = v at *
    generalize lookD O = w at *
    generalize fIsi = q2 at *
    generalize fLen = q3 at *
    generalize cNe = q4 at *
    simp only [mDef, En.start, oSeq, oIf, oRet, oSet, oOwn, putOwn_z, putOwn_s, oPar, oNx, oFail, oEx, _root_.R.m2, _root_.R.m1, _root_.R.mA, aCons, aNil, _root_.R.mB, _root_.R.mC, mCh, _root_.R.mT, mNot, mAnd, mOr, mAndV, mOrV, mNotV, mIf, mTup, mLst, mList, asB_b, allS_leaf, wipe_n, wipe_c, wset_z, wset_s, tYesM, oAsg, gPut, gTp, gsCons, gsNil, mSeq, seq_l, seq_t, bind_leaf, bind_fail, lineOk_1, lineOk_2, lineOk_3, mPeek_z, mPeek_s, mVar_z, mVar_s, put_z, put_s, opAdd_i, opSub_i, opNeg_i, cLt_i, cLe_i, cGt_i, cGe_i, cEq_i, cNe_i, fAbs_i, fInt_i, fLen_t, fLen_l, ix0, ix1, Bool.false_eq_true, Bool.not_true, Bool.not_false, List.length_cons, List.length_nil, List.map_cons, List.map_nil, List.cons_append, List.nil_append, List.replicate, Nat.reduceAdd, Nat.reduceSub, Nat.zero_add, if_true, if_false, ↓reduceIte, k1, k2, k3]
theorem better_two {m n : Nat} {L O : List (List Rat)} (hL : Lk m L) (hO : Lk n O) (hlen : L.length = O.length) {p a : D} (hp : bnd [5, 5, 3, 2] p = true) (ha : bnd [5, 5, 3, 2] a = true) :
    ∃ r, f_is_better_choice [lookD L, lookD O, .tup [p, a]] = .leaf (.bl r) ∧ f_law_is_better [lookD L, lookD O, .tup [p, a]] = .leaf (.bl r) := by
  have c0 := checks_fr hL hO hlen
  have k1 : fIsi [.tup [p, a], .ty "tuple"] = .leaf (.bl true) := rfl
  have k2 : fLen [.tup [p, a]] = .leaf (.int 2) := rfl
  have k3 : cNe (.int 2) (.int 2) = .leaf false := rfl
  have i0 := ix0 p [a]
  have i1 := ix1 p a []
  have np : numD (8 + 3) p = true := num_bnd (by decide) hp
  have q1 := (lot_eq np).1
  have q2 := like_eq (n := L.length) np
  have ln := len_look L
  by_cases hb : isLotB p = true
  · have pl := lot_len hb
    have ne := cNe_nat (lenD p) L.length
    by_cases hs : lenD p = L.length
    · -- the acts
      have r1 : ∃ r, f_are_acts [.int (L.length : Int), a, .fn 0] = .leaf (.bl r) ∧ f_law_are_acts [a, .int (L.length : Int)] = .leaf (.bl r) ∧ (r = true → ∃ (b : Bool) (A : List (Bool × List Rat)), a = mk b (A.map actD) ∧ 1 ≤ A.length ∧ A.length ≤ 8 ∧ ∀ x ∈ A, ∀ q ∈ x.2, Sz 20 q) := by
        rcases bnd_or ha with h1 | ⟨_, _, b, xs, e, rfl⟩
        · obtain ⟨z1, z2⟩ := acts_leaf (s := L.length) h1
          exact ⟨false, z1, z2, fun z => by cases z⟩
        · cases e
          obtain ⟨g1, g2⟩ := bnd_mk.mp ha
          have hA : Ax xs := ⟨by omega, g2⟩
          refine ⟨actsB L.length xs, acts1 hA, acts2 hA, fun hr => ?_⟩
          unfold actsB at hr
          simp only [Bool.and_eq_true, decide_eq_true_eq] at hr
          obtain ⟨h1, h8, hall⟩ := hr
          obtain ⟨A, rfl, hq⟩ := acts_of (s := L.length) (xs := xs) fun x hx => by
            have := List.all_eq_true.mp hall x hx
            simp only [Bool.and_eq_true] at this
            exact ⟨this.1, (hA.el hx).2, this.2.2⟩
          rw [List.length_map] at h1 h8
          exact ⟨b, A, rfl, h1, h8, hq⟩
      obtain ⟨r, t1, t2, hr⟩ := r1
      rw [show (lenD p == L.length) = true from beq_iff_eq.mpr hs] at ne q2
      rw [hb] at q1 q2
      cases r with
      | false =>
        refine ⟨false, ?_, ?_⟩
        · clear hL hO hlen hp ha np hb hs hr q2 t2
          unfold f_is_better_choice b_is_better_choice
          generalize D.tup [p, a] = t at *
          generalize lookD L = v at *
          generalize lookD O = w at *
          generalize (L.length : Int) = s at *
          generalize f_check_looks = g1 at *
          generalize f_is_lot_of = g2 at *
          generalize f_are_acts = g3 at *
          generalize fIsi = g4 at *
          generalize fLen = g5 at *
          generalize cNe = g6 at *
          generalize opIx = g7 at *
          simp only [mDef, En.start, oSeq, oIf, oRet, oSet, oOwn, putOwn_z, putOwn_s, oPar, oNx, oFail, oEx, _root_.R.m2, _root_.R.m1, _root_.R.mA, aCons, aNil, _root_.R.mB, _root_.R.mC, mCh, _root_.R.mT, mNot, mAnd, mOr, mAndV, mOrV, mNotV, mIf, mTup, mLst, mList, asB_b, allS_leaf, wipe_n, wipe_c, wset_z, wset_s, tYesM, oAsg, gPut, gTp, gsCons, gsNil, mSeq, seq_l, seq_t, bind_leaf, bind_fail, lineOk_1, lineOk_2, lineOk_3, mPeek_z, mPeek_s, mVar_z, mVar_s, put_z, put_s, opAdd_i, opSub_i, opNeg_i, cLt_i, cLe_i, cGt_i, cGe_i, cEq_i, cNe_i, fAbs_i, fInt_i, fLen_t, fLen_l, ix0, ix1, Bool.false_eq_true, Bool.not_true, Bool.not_false, List.length_cons, List.length_nil, List.map_cons, List.map_nil, List.cons_append, List.nil_append, List.replicate, Nat.reduceAdd, Nat.reduceSub, Nat.zero_add, if_true, if_false, ↓reduceIte, c0, k1, k2, k3, i0, i1, q1, pl, ln, ne, t1]
        · clear hL hO hlen hp ha np hb hs hr q1 t1 ne pl c0
          rw [Bool.true_and] at q2
          unfold f_law_is_better b_law_is_better
          generalize D.tup [p, a] = t at *
          generalize lookD L = v at *
          generalize lookD O = w at *
          generalize (L.length : Int) = s at *
          generalize f_law_is_lot_like = g2 at *
          generalize f_law_are_acts = g3 at *
          generalize fIsi = g4 at *
          generalize fLen = g5 at *
          generalize cNe = g6 at *
          generalize opIx = g7 at *
          simp only [mDef, En.start, oSeq, oIf, oRet, oSet, oOwn, putOwn_z, putOwn_s, oPar, oNx, oFail, oEx, _root_.R.m2, _root_.R.m1, _root_.R.mA, aCons, aNil, _root_.R.mB, _root_.R.mC, mCh, _root_.R.mT, mNot, mAnd, mOr, mAndV, mOrV, mNotV, mIf, mTup, mLst, mList, asB_b, allS_leaf, wipe_n, wipe_c, wset_z, wset_s, tYesM, oAsg, gPut, gTp, gsCons, gsNil, mSeq, seq_l, seq_t, bind_leaf, bind_fail, lineOk_1, lineOk_2, lineOk_3, mPeek_z, mPeek_s, mVar_z, mVar_s, put_z, put_s, opAdd_i, opSub_i, opNeg_i, cLt_i, cLe_i, cGt_i, cGe_i, cEq_i, cNe_i, fAbs_i, fInt_i, fLen_t, fLen_l, ix0, ix1, Bool.false_eq_true, Bool.not_true, Bool.not_false, List.length_cons, List.length_nil, List.map_cons, List.map_nil, List.cons_append, List.nil_append, List.replicate, Nat.reduceAdd, Nat.reduceSub, Nat.zero_add, if_true, if_false, ↓reduceIte, k1, k2, k3, i0, i1, ln, q2, t2]
      | true =>
        obtain ⟨b, A, rfl, a1, a8, hq⟩ := hr rfl
        obtain ⟨P, rfl, _, _, hP, _⟩ := lot_is np hb
        rw [lenD_lot] at hs
        have hC : Ch L.length P A := ⟨hs, fun q h => (hP q h).1, a1, a8, hq⟩
        have hC' : Ch O.length P A := ⟨hs.trans hlen, fun q h => (hP q h).1, a1, a8, hq⟩
        have w1 := worth_fr hC hL (b := b)
        have w2 := worth_fr hC' hO (b := b)
        have w3 := lworth_fr hC hL (b := b)
        have w4 := lworth_fr hC' hO (b := b)
        have b1 := below_fr (wo_sz hC hL) (wo_sz hC' hO)
        have b2 := law_below_fr (wo_sz hC hL) (wo_sz hC' hO)
        refine ⟨decide (wo P L A m < wo P O A n), ?_, ?_⟩
        · clear hL hO hlen hp ha np hb hs hr q2 t2 hP hC hC' hq w3 w4 b2
          generalize decide (wo P L A m < wo P O A n) = dd at *
          generalize fr (wo P L A m) = x1 at *
          generalize fr (wo P O A n) = x2 at *
          unfold f_is_better_choice b_is_better_choice
          generalize mk b (A.map actD) = u at *
          generalize lotD P = pp at *
          generalize D.tup [pp, u] = t at *
          generalize lookD L = v at *
          generalize lookD O = w at *
          generalize (L.length : Int) = s at *
          generalize f_check_looks = g1 at *
          generalize f_is_lot_of = g2 at *
          generalize f_are_acts = g3 at *
          generalize fIsi = g4 at *
          generalize fLen = g5 at *
          generalize cNe = g6 at *
          generalize opIx = g7 at *
          generalize f_worth_of = g8 at *
          generalize f_is_below = g9 at *
          simp only [mDef, En.start, oSeq, oIf, oRet, oSet, oOwn, putOwn_z, putOwn_s, oPar, oNx, oFail, oEx, _root_.R.m2, _root_.R.m1, _root_.R.mA, aCons, aNil, _root_.R.mB, _root_.R.mC, mCh, _root_.R.mT, mNot, mAnd, mOr, mAndV, mOrV, mNotV, mIf, mTup, mLst, mList, asB_b, allS_leaf, wipe_n, wipe_c, wset_z, wset_s, tYesM, oAsg, gPut, gTp, gsCons, gsNil, mSeq, seq_l, seq_t, bind_leaf, bind_fail, lineOk_1, lineOk_2, lineOk_3, mPeek_z, mPeek_s, mVar_z, mVar_s, put_z, put_s, opAdd_i, opSub_i, opNeg_i, cLt_i, cLe_i, cGt_i, cGe_i, cEq_i, cNe_i, fAbs_i, fInt_i, fLen_t, fLen_l, ix0, ix1, Bool.false_eq_true, Bool.not_true, Bool.not_false, List.length_cons, List.length_nil, List.map_cons, List.map_nil, List.cons_append, List.nil_append, List.replicate, Nat.reduceAdd, Nat.reduceSub, Nat.zero_add, if_true, if_false, ↓reduceIte, c0, k1, k2, k3, i0, i1, q1, pl, ln, ne, t1, w1, w2, b1]
        · clear hL hO hlen hp ha np hb hs hr q1 t1 ne pl c0 hP hC hC' hq w1 w2 b1
          rw [Bool.true_and] at q2
          generalize decide (wo P L A m < wo P O A n) = dd at *
          generalize fr (wo P L A m) = x1 at *
          generalize fr (wo P O A n) = x2 at *
          unfold f_law_is_better b_law_is_better
          generalize mk b (A.map actD) = u at *
          generalize lotD P = pp at *
          generalize D.tup [pp, u] = t at *
          generalize lookD L = v at *
          generalize lookD O = w at *
          generalize (L.length : Int) = s at *
          generalize f_law_is_lot_like = g2 at *
          generalize f_law_are_acts = g3 at *
          generalize fIsi = g4 at *
          generalize fLen = g5 at *
          generalize cNe = g6 at *
          generalize opIx = g7 at *
          generalize f_law_worth = g8 at *
          generalize f_law_below = g9 at *
          simp only [mDef, En.start, oSeq, oIf, oRet, oSet, oOwn, putOwn_z, putOwn_s, oPar, oNx, oFail, oEx, _root_.R.m2, _root_.R.m1, _root_.R.mA, aCons, aNil, _root_.R.mB, _root_.R.mC, mCh, _root_.R.mT, mNot, mAnd, mOr, mAndV, mOrV, mNotV, mIf, mTup, mLst, mList, asB_b, allS_leaf, wipe_n, wipe_c, wset_z, wset_s, tYesM, oAsg, gPut, gTp, gsCons, gsNil, mSeq, seq_l, seq_t, bind_leaf, bind_fail, lineOk_1, lineOk_2, lineOk_3, mPeek_z, mPeek_s, mVar_z, mVar_s, put_z, put_s, opAdd_i, opSub_i, opNeg_i, cLt_i, cLe_i, cGt_i, cGe_i, cEq_i, cNe_i, fAbs_i, fInt_i, fLen_t, fLen_l, ix0, ix1, Bool.false_eq_true, Bool.not_true, Bool.not_false, List.length_cons, List.length_nil, List.map_cons, List.map_nil, List.cons_append, List.nil_append, List.replicate, Nat.reduceAdd, Nat.reduceSub, Nat.zero_add, if_true, if_false, ↓reduceIte, k1, k2, k3, i0, i1, ln, q2, t2, w3, w4, b2]
    · rw [show (lenD p == L.length) = false from beq_eq_false_iff_ne.mpr hs] at ne q2
      rw [hb] at q1 q2
      refine ⟨false, ?_, ?_⟩
      · clear hL hO hlen hp ha np hb hs q2
        unfold f_is_better_choice b_is_better_choice
        generalize D.tup [p, a] = t at *
        generalize lookD L = v at *
        generalize lookD O = w at *
        generalize (L.length : Int) = s at *
        generalize f_check_looks = g1 at *
        generalize f_is_lot_of = g2 at *
        generalize fIsi = g4 at *
        generalize fLen = g5 at *
        generalize cNe = g6 at *
        generalize opIx = g7 at *
        simp only [mDef, En.start, oSeq, oIf, oRet, oSet, oOwn, putOwn_z, putOwn_s, oPar, oNx, oFail, oEx, _root_.R.m2, _root_.R.m1, _root_.R.mA, aCons, aNil, _root_.R.mB, _root_.R.mC, mCh, _root_.R.mT, mNot, mAnd, mOr, mAndV, mOrV, mNotV, mIf, mTup, mLst, mList, asB_b, allS_leaf, wipe_n, wipe_c, wset_z, wset_s, tYesM, oAsg, gPut, gTp, gsCons, gsNil, mSeq, seq_l, seq_t, bind_leaf, bind_fail, lineOk_1, lineOk_2, lineOk_3, mPeek_z, mPeek_s, mVar_z, mVar_s, put_z, put_s, opAdd_i, opSub_i, opNeg_i, cLt_i, cLe_i, cGt_i, cGe_i, cEq_i, cNe_i, fAbs_i, fInt_i, fLen_t, fLen_l, ix0, ix1, Bool.false_eq_true, Bool.not_true, Bool.not_false, List.length_cons, List.length_nil, List.map_cons, List.map_nil, List.cons_append, List.nil_append, List.replicate, Nat.reduceAdd, Nat.reduceSub, Nat.zero_add, if_true, if_false, ↓reduceIte, c0, k1, k2, k3, i0, i1, q1, pl, ln, ne]
      · clear hL hO hlen hp ha np hb hs q1 ne pl c0
        rw [Bool.true_and] at q2
        unfold f_law_is_better b_law_is_better
        generalize D.tup [p, a] = t at *
        generalize lookD L = v at *
        generalize lookD O = w at *
        generalize (L.length : Int) = s at *
        generalize f_law_is_lot_like = g2 at *
        generalize fIsi = g4 at *
        generalize fLen = g5 at *
        generalize cNe = g6 at *
        generalize opIx = g7 at *
        simp only [mDef, En.start, oSeq, oIf, oRet, oSet, oOwn, putOwn_z, putOwn_s, oPar, oNx, oFail, oEx, _root_.R.m2, _root_.R.m1, _root_.R.mA, aCons, aNil, _root_.R.mB, _root_.R.mC, mCh, _root_.R.mT, mNot, mAnd, mOr, mAndV, mOrV, mNotV, mIf, mTup, mLst, mList, asB_b, allS_leaf, wipe_n, wipe_c, wset_z, wset_s, tYesM, oAsg, gPut, gTp, gsCons, gsNil, mSeq, seq_l, seq_t, bind_leaf, bind_fail, lineOk_1, lineOk_2, lineOk_3, mPeek_z, mPeek_s, mVar_z, mVar_s, put_z, put_s, opAdd_i, opSub_i, opNeg_i, cLt_i, cLe_i, cGt_i, cGe_i, cEq_i, cNe_i, fAbs_i, fInt_i, fLen_t, fLen_l, ix0, ix1, Bool.false_eq_true, Bool.not_true, Bool.not_false, List.length_cons, List.length_nil, List.map_cons, List.map_nil, List.cons_append, List.nil_append, List.replicate, Nat.reduceAdd, Nat.reduceSub, Nat.zero_add, if_true, if_false, ↓reduceIte, k1, k2, k3, i0, i1, ln, q2]
  · rw [Bool.eq_false_iff.mpr hb] at q1 q2
    rw [Bool.false_and] at q2
    refine ⟨false, ?_, ?_⟩
    · clear hL hO hlen hp ha np hb q2
      unfold f_is_better_choice b_is_better_choice
      generalize D.tup [p, a] = t at *
      generalize lookD L = v at *
      generalize lookD O = w at *
      generalize f_check_looks = g1 at *
      generalize f_is_lot_of = g2 at *
      generalize fIsi = g4 at *
      generalize fLen = g5 at *
      generalize cNe = g6 at *
      generalize opIx = g7 at *
      simp only [mDef, En.start, oSeq, oIf, oRet, oSet, oOwn, putOwn_z, putOwn_s, oPar, oNx, oFail, oEx, _root_.R.m2, _root_.R.m1, _root_.R.mA, aCons, aNil, _root_.R.mB, _root_.R.mC, mCh, _root_.R.mT, mNot, mAnd, mOr, mAndV, mOrV, mNotV, mIf, mTup, mLst, mList, asB_b, allS_leaf, wipe_n, wipe_c, wset_z, wset_s, tYesM, oAsg, gPut, gTp, gsCons, gsNil, mSeq, seq_l, seq_t, bind_leaf, bind_fail, lineOk_1, lineOk_2, lineOk_3, mPeek_z, mPeek_s, mVar_z, mVar_s, put_z, put_s, opAdd_i, opSub_i, opNeg_i, cLt_i, cLe_i, cGt_i, cGe_i, cEq_i, cNe_i, fAbs_i, fInt_i, fLen_t, fLen_l, ix0, ix1, Bool.false_eq_true, Bool.not_true, Bool.not_false, List.length_cons, List.length_nil, List.map_cons, List.map_nil, List.cons_append, List.nil_append, List.replicate, Nat.reduceAdd, Nat.reduceSub, Nat.zero_add, if_true, if_false, ↓reduceIte, c0, k1, k2, k3, i0, q1]
    · clear hL hO hlen hp ha np hb q1 c0
      unfold f_law_is_better b_law_is_better
      generalize D.tup [p, a] = t at *
      generalize lookD L = v at *
      generalize lookD O = w at *
      generalize (L.length : Int) = s at *
      generalize f_law_is_lot_like = g2 at *
      generalize fIsi = g4 at *
      generalize fLen = g5 at *
      generalize cNe = g6 at *
      generalize opIx = g7 at *
      simp only [mDef, En.start, oSeq, oIf, oRet, oSet, oOwn, putOwn_z, putOwn_s, oPar, oNx, oFail, oEx, _root_.R.m2, _root_.R.m1, _root_.R.mA, aCons, aNil, _root_.R.mB, _root_.R.mC, mCh, _root_.R.mT, mNot, mAnd, mOr, mAndV, mOrV, mNotV, mIf, mTup, mLst, mList, asB_b, allS_leaf, wipe_n, wipe_c, wset_z, wset_s, tYesM, oAsg, gPut, gTp, gsCons, gsNil, mSeq, seq_l, seq_t, bind_leaf, bind_fail, lineOk_1, lineOk_2, lineOk_3, mPeek_z, mPeek_s, mVar_z, mVar_s, put_z, put_s, opAdd_i, opSub_i, opNeg_i, cLt_i, cLe_i, cGt_i, cGe_i, cEq_i, cNe_i, fAbs_i, fInt_i, fLen_t, fLen_l, ix0, ix1, Bool.false_eq_true, Bool.not_true, Bool.not_false, List.length_cons, List.length_nil, List.map_cons, List.map_nil, List.cons_append, List.nil_append, List.replicate, Nat.reduceAdd, Nat.reduceSub, Nat.zero_add, if_true, if_false, ↓reduceIte, k1, k2, k3, i0, ln, q2]
theorem va_better {m n : Nat} {L O : List (List Rat)} (hL : Lk m L) (hO : Lk n O) (hlen : L.length = O.length) {d : D} (h : Va d) :
    ∃ r, f_is_better_choice [lookD L, lookD O, d] = .leaf (.bl r) ∧ f_law_is_better [lookD L, lookD O, d] = .leaf (.bl r) := by
  rcases bnd_or h with h1 | ⟨_, _, b, xs, _, rfl⟩
  · exact ⟨false, better_no hL hO hlen (isi_leaf2 h1)⟩
  · obtain ⟨h1, h2⟩ := va_mk h
    cases b with
    | true => exact ⟨false, better_no hL hO hlen rfl⟩
    | false =>
      show ∃ r, f_is_better_choice [lookD L, lookD O, .tup xs] = .leaf (.bl r) ∧ f_law_is_better [lookD L, lookD O, .tup xs] = .leaf (.bl r)
      match xs, h2 with
      | [], _ => exact ⟨false, better_len hL hO hlen (by simp)⟩
      | [_], _ => exact ⟨false, better_len hL hO hlen (by simp)⟩
      | [p, a], h2 => exact better_two hL hO hlen (h2 p List.mem_cons_self) (h2 a (List.mem_cons_of_mem _ List.mem_cons_self))
      | _ :: _ :: _ :: _, _ => exact ⟨false, better_len hL hO hlen (by simp)⟩
/-! ### one value asked -/
theorem va_repr {d : D} (h : Va d) : ∃ s, fRepr [d] = .leaf (.str s) ∧ cNe (.str s) (.str s) = .leaf false := by
  obtain ⟨s, a, b, _⟩ := repr_vd h.vd
  exact ⟨s, a, b⟩
theorem two_repr (b : Bool) : ∃ s, fRepr [.lst [.bl b, .bl b]] = .leaf (.str s) ∧ cNe (.str s) (.str s) = .leaf false := by
  refine va_repr ?_
  show bnd VL (.lst [.bl b, .bl b]) = true
  cases b <;> rfl
def bK : En → Tree Out := (oSeq (oPar 3 4 (aCons (mA f_law_is_look (aCons (mVar 2) aNil)) (aCons (mA fRepr (aCons (mPeek 2) aNil)) aNil)))
  (oIf (mOr (mC cNe (mA fRepr (aCons (mList (mLst (aCons (mA f_is_look (aCons (mVar 2) aNil)) (aCons (mA (fun ds => f_is_look (permD [0] ds)) (aCons (mVar 2) aNil)) aNil)))) aNil)) (mA fRepr (aCons (mList (mLst (aCons (mVar 3) (aCons (mVar 3) aNil)))) aNil))) (mC cNe (mA fRepr (aCons (mPeek 2) aNil)) (mPeek 4)))
  (oRet (fun _ => .leaf (.bl false)))
  oNx))
theorem perm1 (a : D) : permD [0] [a] = [a] := rfl
theorem perm3 (a b c : D) : permD [2, 1, 0] [a, b, c] = [c, b, a] := rfl
theorem bK_at {d : D} (h : Va d) {a b x y e : Option Slot} : ∃ x' y', bK [a, b, some ⟨false, d⟩, x, y, e] = .leaf (.nx [a, b, some ⟨false, d⟩, x', y', e]) := by
  obtain ⟨r, k1, k2⟩ := look_eq h
  obtain ⟨s, r1, r2⟩ := va_repr h
  obtain ⟨t, q1, q2⟩ := two_repr r
  unfold bK
  generalize f_is_look = f1 at *
  generalize f_law_is_look = f2 at *
  generalize fRepr = f3 at *
  generalize cNe = f4 at *
  simp only [mDef, En.start, oSeq, oIf, oRet, oSet, oOwn, putOwn_z, putOwn_s, oPar, oNx, oFail, oEx, _root_.R.m2, _root_.R.m1, _root_.R.mA, aCons, aNil, _root_.R.mB, _root_.R.mC, mCh, _root_.R.mT, mNot, mAnd, mOr, mAndV, mOrV, mNotV, mIf, mTup, mLst, mList, asB_b, allS_leaf, wipe_n, wipe_c, wset_z, wset_s, tYesM, oAsg, gPut, gTp, gsCons, gsNil, mSeq, seq_l, seq_t, bind_leaf, bind_fail, lineOk_1, lineOk_2, lineOk_3, mPeek_z, mPeek_s, mVar_z, mVar_s, put_z, put_s, opAdd_i, opSub_i, opNeg_i, cLt_i, cLe_i, cGt_i, cGe_i, cEq_i, cNe_i, fAbs_i, fInt_i, fLen_t, fLen_l, ix0, ix1, Bool.false_eq_true, Bool.not_true, Bool.not_false, List.length_cons, List.length_nil, List.map_cons, List.map_nil, List.cons_append, List.nil_append, List.replicate, Nat.reduceAdd, Nat.reduceSub, Nat.zero_add, if_true, if_false, ↓reduceIte, k1, k2, r1, perm1, q1, q2, r2]
  exact ⟨_, _, rfl⟩
def bG (fp fl : List D → Tree D) : En → Tree Out := (oSeq (oPar 7 8 (aCons (mA fl (aCons (mVar 1) (aCons (mVar 2) (aCons (mVar 6) aNil)))) (aCons (mA fRepr (aCons (mPeek 6) aNil)) aNil)))
  (oIf (mOr (mC cNe (mA fRepr (aCons (mList (mLst (aCons (mA fp (aCons (mVar 1) (aCons (mVar 2) (aCons (mVar 6) aNil)))) (aCons (mA (fun ds => fp (permD [2, 1, 0] ds)) (aCons (mVar 6) (aCons (mVar 2) (aCons (mVar 1) aNil)))) aNil)))) aNil)) (mA fRepr (aCons (mList (mLst (aCons (mVar 7) (aCons (mVar 7) aNil)))) aNil))) (mC cNe (mA fRepr (aCons (mPeek 6) aNil)) (mPeek 8)))
  (oRet (fun _ => .leaf (.bl false)))
  oNx))
theorem bG_at {fp fl : List D → Tree D} {v w d : D} (h : Va d) (hf : ∃ r, fp [v, w, d] = .leaf (.bl r) ∧ fl [v, w, d] = .leaf (.bl r)) {a c e f x y i j : Option Slot} :
    ∃ x' y', bG fp fl [a, some ⟨false, v⟩, some ⟨false, w⟩, c, e, f, some ⟨false, d⟩, x, y, i, j] = .leaf (.nx [a, some ⟨false, v⟩, some ⟨false, w⟩, c, e, f, some ⟨false, d⟩, x', y', i, j]) := by
  obtain ⟨r, k1, k2⟩ := hf
  obtain ⟨s, r1, r2⟩ := va_repr h
  obtain ⟨t, q1, q2⟩ := two_repr r
  unfold bG
  generalize fRepr = f3 at *
  generalize cNe = f4 at *
  simp only [mDef, En.start, oSeq, oIf, oRet, oSet, oOwn, putOwn_z, putOwn_s, oPar, oNx, oFail, oEx, _root_.R.m2, _root_.R.m1, _root_.R.mA, aCons, aNil, _root_.R.mB, _root_.R.mC, mCh, _root_.R.mT, mNot, mAnd, mOr, mAndV, mOrV, mNotV, mIf, mTup, mLst, mList, asB_b, allS_leaf, wipe_n, wipe_c, wset_z, wset_s, tYesM, oAsg, gPut, gTp, gsCons, gsNil, mSeq, seq_l, seq_t, bind_leaf, bind_fail, lineOk_1, lineOk_2, lineOk_3, mPeek_z, mPeek_s, mVar_z, mVar_s, put_z, put_s, opAdd_i, opSub_i, opNeg_i, cLt_i, cLe_i, cGt_i, cGe_i, cEq_i, cNe_i, fAbs_i, fInt_i, fLen_t, fLen_l, ix0, ix1, Bool.false_eq_true, Bool.not_true, Bool.not_false, List.length_cons, List.length_nil, List.map_cons, List.map_nil, List.cons_append, List.nil_append, List.replicate, Nat.reduceAdd, Nat.reduceSub, Nat.zero_add, if_true, if_false, ↓reduceIte, k1, k2, r1, perm3, q1, q2, r2]
  exact ⟨_, _, rfl⟩
theorem loopK {a b e : Option Slot} : ∀ (zs : List D) (z x y : Option Slot), (∀ d ∈ zs, Va d) → ∃ z' x' y', oLoop (gPut 2) bK zs [a, b, z, x, y, e] = .leaf (.nx [a, b, z', x', y', e])
  | [], z, x, y, _ => ⟨z, x, y, rfl⟩
  | d :: zs, z, x, y, h => by
    obtain ⟨x1, y1, e1⟩ := bK_at (h d List.mem_cons_self) (a := a) (b := b) (x := x) (y := y) (e := e)
    obtain ⟨z', x', y', e2⟩ := loopK (a := a) (b := b) (e := e) zs (some ⟨false, d⟩) x1 y1 fun u hu => h u (List.mem_cons_of_mem _ hu)
    refine ⟨z', x', y', ?_⟩
    unfold oLoop
    generalize bK = bk at *
    simp only [mDef, En.start, oSeq, oIf, oRet, oSet, oOwn, putOwn_z, putOwn_s, oPar, oNx, oFail, oEx, _root_.R.m2, _root_.R.m1, _root_.R.mA, aCons, aNil, _root_.R.mB, _root_.R.mC, mCh, _root_.R.mT, mNot, mAnd, mOr, mAndV, mOrV, mNotV, mIf, mTup, mLst, mList, asB_b, allS_leaf, wipe_n, wipe_c, wset_z, wset_s, tYesM, oAsg, gPut, gTp, gsCons, gsNil, mSeq, seq_l, seq_t, bind_leaf, bind_fail, lineOk_1, lineOk_2, lineOk_3, mPeek_z, mPeek_s, mVar_z, mVar_s, put_z, put_s, opAdd_i, opSub_i, opNeg_i, cLt_i, cLe_i, cGt_i, cGe_i, cEq_i, cNe_i, fAbs_i, fInt_i, fLen_t, fLen_l, ix0, ix1, Bool.false_eq_true, Bool.not_true, Bool.not_false, List.length_cons, List.length_nil, List.map_cons, List.map_nil, List.cons_append, List.nil_append, List.replicate, Nat.reduceAdd, Nat.reduceSub, Nat.zero_add, if_true, if_false, ↓reduceIte, e1]
    exact e2
theorem loopG {fp fl : List D → Tree D} {v w : D} (hf : ∀ d, Va d → ∃ r, fp [v, w, d] = .leaf (.bl r) ∧ fl [v, w, d] = .leaf (.bl r)) {a c e f i j : Option Slot} : ∀ (zs : List D) (z x y : Option Slot), (∀ d ∈ zs, Va d) →
    ∃ z' x' y', oLoop (gPut 6) (bG fp fl) zs [a, some ⟨false, v⟩, some ⟨false, w⟩, c, e, f, z, x, y, i, j] = .leaf (.nx [a, some ⟨false, v⟩, some ⟨false, w⟩, c, e, f, z', x', y', i, j])
  | [], z, x, y, _ => ⟨z, x, y, rfl⟩
  | d :: zs, z, x, y, h => by
    obtain ⟨x1, y1, e1⟩ := bG_at (h d List.mem_cons_self) (hf d (h d List.mem_cons_self)) (a := a) (c := c) (e := e) (f := f) (x := x) (y := y) (i := i) (j := j)
    obtain ⟨z', x', y', e2⟩ := loopG hf (a := a) (c := c) (e := e) (f := f) (i := i) (j := j) zs (some ⟨false, d⟩) x1 y1 fun u hu => h u (List.mem_cons_of_mem _ hu)
    refine ⟨z', x', y', ?_⟩
    unfold oLoop
    generalize bG fp fl = bk at *
    simp only [mDef, En.start, oSeq, oIf, oRet, oSet, oOwn, putOwn_z, putOwn_s, oPar, oNx, oFail, oEx, _root_.R.m2, _root_.R.m1, _root_.R.mA, aCons, aNil, _root_.R.mB, _root_.R.mC, mCh, _root_.R.mT, mNot, mAnd, mOr, mAndV, mOrV, mNotV, mIf, mTup, mLst, mList, asB_b, allS_leaf, wipe_n, wipe_c, wset_z, wset_s, tYesM, oAsg, gPut, gTp, gsCons, gsNil, mSeq, seq_l, seq_t, bind_leaf, bind_fail, lineOk_1, lineOk_2, lineOk_3, mPeek_z, mPeek_s, mVar_z, mVar_s, put_z, put_s, opAdd_i, opSub_i, opNeg_i, cLt_i, cLe_i, cGt_i, cGe_i, cEq_i, cNe_i, fAbs_i, fInt_i, fLen_t, fLen_l, ix0, ix1, Bool.false_eq_true, Bool.not_true, Bool.not_false, List.length_cons, List.length_nil, List.map_cons, List.map_nil, List.cons_append, List.nil_append, List.replicate, Nat.reduceAdd, Nat.reduceSub, Nat.zero_add, if_true, if_false, ↓reduceIte, e1]
    exact e2
end Law

set_option maxRecDepth 100000
set_option linter.all false
namespace Law
open R PySem L2
local macro_rules | `(tactic| walk_at "ev") => `(tactic| simp only [mDef, En.start, oSeq, oIf, oRet, oSet, oOwn, putOwn_z, putOwn_s, oPar, oNx, oFail, oEx, m2, m1, mA, aCons, aNil, mB, mC, mCh, mT, mNot, mAnd, mOr, mAndV, mOrV, mNotV, mIf, mTup, mLst, mList, asB_b, allS_leaf, wipe_n, wipe_c, wset_z, wset_s, tYesM, oAsg, gPut, gTp, gsCons, gsNil, mSeq, seq_l, seq_t, bind_leaf, bind_fail, lineOk_1, lineOk_2, lineOk_3, mPeek_z, mPeek_s, mVar_z, mVar_s, put_z, put_s, opAdd_i, opSub_i, opNeg_i, cLt_i, cLe_i, cGt_i, cGe_i, cEq_i, cNe_i, fAbs_i, fInt_i, fLen_t, fLen_l, ix0, ix1, Bool.false_eq_true, Bool.not_true, Bool.not_false,
  List.length_cons, List.length_nil, List.map_cons, List.map_nil, List.cons_append, List.nil_append, List.replicate, Nat.reduceAdd, Nat.reduceSub, Nat.zero_add, if_true, if_false, ↓reduceIte])

/-! ### garbled lots are lots -/
theorem gv_nil (T : List (List Rat)) (j : Nat) : gv [] T j = 0 := rfl
theorem gv_nil2 (l : List Rat) (j : Nat) : gv l [] j = 0 := by
  unfold gv dotR
  rw [List.map_nil, List.zip_nil_right]
  rfl
theorem gv_cons (a : Rat) (l t : List Rat) (T : List (List Rat)) (j : Nat) : gv (a :: l) (t :: T) j = a * t.getD j 0 + gv l T j := by
  unfold gv dotR
  rw [List.map_cons, List.zip_cons_cons, List.map_cons, List.sum_cons]
theorem sum_add {f g : Nat → Rat} : ∀ js : List Nat, (js.map fun j => f j + g j).sum = (js.map f).sum + (js.map g).sum
  | [] => by simp; grind
  | j :: js => by
    rw [List.map_cons, List.map_cons, List.map_cons, List.sum_cons, List.sum_cons, List.sum_cons, sum_add js]
    grind
theorem sum_mulc {f : Nat → Rat} (a : Rat) : ∀ js : List Nat, (js.map fun j => a * f j).sum = a * (js.map f).sum
  | [] => by simp
  | j :: js => by
    rw [List.map_cons, List.map_cons, List.sum_cons, List.sum_cons, sum_mulc a js]
    grind
theorem sum_zero : ∀ js : List Nat, (js.map fun _ => (0 : Rat)).sum = 0
  | [] => rfl
  | j :: js => by rw [List.map_cons, List.sum_cons, sum_zero js]; grind
theorem range_getD (t : List Rat) : (List.range t.length).map (fun j => t.getD j 0) = t := by
  apply List.ext_getElem
  · simp
  · intro i h1 h2
    rw [List.getElem_map, List.getElem_range, List.getD_eq_getElem?_getD, List.getElem?_eq_getElem h2]
    rfl
theorem gv_sum {n : Nat} : ∀ (l : List Rat) (T : List (List Rat)), l.length = T.length → (∀ t ∈ T, t.length = n ∧ t.sum = 1) → ((List.range n).map (gv l T)).sum = l.sum
  | [], [], _, _ => by
    rw [show (List.range n).map (gv [] []) = (List.range n).map fun _ => (0 : Rat) from List.map_congr_left fun j _ => gv_nil [] j, sum_zero]
    rfl
  | a :: l, t :: T, hl, h => by
    obtain ⟨h1, h2⟩ := h t List.mem_cons_self
    have ih := gv_sum l T (by simpa using hl) fun u hu => h u (List.mem_cons_of_mem _ hu)
    rw [show (List.range n).map (gv (a :: l) (t :: T)) = (List.range n).map fun j => a * t.getD j 0 + gv l T j from List.map_congr_left fun j _ => gv_cons a l t T j,
      sum_add, sum_mulc, ← h1, range_getD, h2, h1, ih, List.sum_cons]
    grind
theorem getD_or (t : List Rat) (j : Nat) : t.getD j 0 ∈ t ∨ t.getD j 0 = 0 := by
  rw [List.getD_eq_getElem?_getD]
  by_cases hj : j < t.length
  · rw [List.getElem?_eq_getElem hj]
    exact .inl (List.getElem_mem hj)
  · rw [List.getElem?_eq_none (by omega)]
    exact .inr rfl
theorem gv_nn (j : Nat) : ∀ (l : List Rat) (T : List (List Rat)), (∀ q ∈ l, 0 ≤ q) → (∀ t ∈ T, ∀ q ∈ t, 0 ≤ q) → 0 ≤ gv l T j
  | [], T, _, _ => by rw [gv_nil]; grind
  | _ :: _, [], _, _ => by rw [gv_nil2]; grind
  | a :: l, t :: T, hl, hT => by
    rw [gv_cons]
    have h1 := hl a List.mem_cons_self
    have h2 : 0 ≤ t.getD j 0 := by
      rcases getD_or t j with h | h
      · exact hT t List.mem_cons_self _ h
      · rw [h]; grind
    have h3 := gv_nn j l T (fun q hq => hl q (List.mem_cons_of_mem _ hq)) fun u hu => hT u (List.mem_cons_of_mem _ hu)
    have h4 := Rat.mul_nonneg h1 h2
    grind
/-- so many times it is whole -/
def Wh (N : Nat) (q : Rat) : Prop := ∃ k : Int, q * ((N : Int) : Rat) = (k : Rat)
theorem wh_mul {N M : Nat} {q : Rat} (h : Wh N q) : Wh (N * M) q := by
  obtain ⟨k, e⟩ := h
  refine ⟨k * M, ?_⟩
  rw [show (((N * M : Nat) : Int) : Rat) = ((N : Int) : Rat) * ((M : Int) : Rat) by rw [← Rat.intCast_mul]; congr 1, Rat.intCast_mul, ← e]
  grind
theorem wh_mul' {N M : Nat} {q : Rat} (h : Wh M q) : Wh (N * M) q := by rw [Nat.mul_comm]; exact wh_mul h
theorem wh_zero (N : Nat) : Wh N 0 := ⟨0, by rw [show ((0 : Int) : Rat) = 0 from rfl]; grind⟩
theorem wh_add {N : Nat} {p q : Rat} (h : Wh N p) (h' : Wh N q) : Wh N (p + q) := by
  obtain ⟨k, e⟩ := h
  obtain ⟨l, e'⟩ := h'
  exact ⟨k + l, by rw [Rat.intCast_add, ← e, ← e']; grind⟩
theorem wh_prod {N M : Nat} {p q : Rat} (h : Wh N p) (h' : Wh M q) : Wh (N * M) (p * q) := by
  obtain ⟨k, e⟩ := h
  obtain ⟨l, e'⟩ := h'
  refine ⟨k * l, ?_⟩
  rw [show (((N * M : Nat) : Int) : Rat) = ((N : Int) : Rat) * ((M : Int) : Rat) by rw [← Rat.intCast_mul]; congr 1, Rat.intCast_mul, ← e, ← e']
  grind
theorem gv_wh {N M : Nat} (j : Nat) : ∀ (l : List Rat) (T : List (List Rat)), (∀ q ∈ l, Wh N q) → (∀ t ∈ T, ∀ q ∈ t, Wh M q) → Wh (N * M) (gv l T j)
  | [], T, _, _ => by rw [gv_nil]; exact wh_zero _
  | _ :: _, [], _, _ => by rw [gv_nil2]; exact wh_zero _
  | a :: l, t :: T, hl, hT => by
    rw [gv_cons]
    refine wh_add (wh_prod (hl a List.mem_cons_self) ?_) (gv_wh j l T (fun q hq => hl q (List.mem_cons_of_mem _ hq)) fun u hu => hT u (List.mem_cons_of_mem _ hu))
    rcases getD_or t j with h | h
    · exact hT t List.mem_cons_self _ h
    · rw [h]; exact wh_zero _
theorem tab_wh {B n : Nat} : ∀ T : List (List Rat), (∀ t ∈ T, LotN B n t) → ∃ M : Nat, 0 < M ∧ M ≤ B ^ T.length ∧ ∀ t ∈ T, ∀ q ∈ t, Wh M q
  | [], _ => ⟨1, by omega, by simp, fun _ h => nomatch h⟩
  | t :: T, h => by
    obtain ⟨M, m0, m1, hM⟩ := tab_wh T fun u hu => h u (List.mem_cons_of_mem _ hu)
    obtain ⟨N, n0, n1, hN⟩ := (h t List.mem_cons_self).cd
    refine ⟨N * M, Nat.mul_pos n0 m0, ?_, fun u hu q hq => ?_⟩
    · rw [List.length_cons, Nat.pow_succ, Nat.mul_comm]
      exact Nat.mul_le_mul m1 n1
    · rcases List.mem_cons.mp hu with e | e
      · subst e; exact wh_mul (hN q hq)
      · exact wh_mul' (hM u e q hq)
theorem garb_N {B n m : Nat} {l : List Rat} {T : List (List Rat)} (hl : LotN B m l) (hT : ∀ t ∈ T, LotN B n t) (hm : T.length = m) : LotN (B * B ^ m) n ((List.range n).map (gv l T)) := by
  obtain ⟨M, m0, m1, hM⟩ := tab_wh T hT
  obtain ⟨N, n0, n1, hN⟩ := hl.cd
  refine ⟨by rw [List.length_map, List.length_range], fun q hq => ?_, ?_, N * M, Nat.mul_pos n0 m0, Nat.mul_le_mul n1 (hm ▸ m1), fun q hq => ?_⟩
  · obtain ⟨j, _, rfl⟩ := List.mem_map.mp hq
    exact gv_nn j l T hl.nn fun t ht => (hT t ht).nn
  · rw [gv_sum l T (by rw [hl.len, hm]) fun t ht => ⟨(hT t ht).len, (hT t ht).one⟩]
    exact hl.one
  · obtain ⟨j, _, rfl⟩ := List.mem_map.mp hq
    exact gv_wh j l T hN hM
theorem look_lk {B m : Nat} {L : List (List Rat)} (l1 : 1 ≤ L.length) (l4 : L.length ≤ 4) (m1 : 1 ≤ m) (m8 : m ≤ 8) (hB : B < 10 ^ 12) (h : ∀ l ∈ L, LotN B m l) : Lk m L := ⟨l1, l4, fun l hl => ⟨(h l hl).toQ m1 m8 hB, (h l hl).len⟩⟩
/-- small numbers -/
theorem sz_of {q : Rat} {N : Nat} {k : Int} (hN : 0 < N) (hB : N < 2 ^ 20) (h0 : 0 ≤ q) (h1 : q ≤ 1) (e : q * ((N : Int) : Rat) = (k : Rat)) : Sz 20 q := by
  have hp := cast_pos (show (0 : Int) < N by omega)
  have hn := cast_ne (show (N : Int) ≠ 0 by omega)
  have eq : q = (k : Rat) / ((N : Int) : Rat) := by
    generalize ((N : Int) : Rat) = n at *
    grind
  have k0 : (0 : Rat) ≤ (k : Rat) := by
    rw [← e]
    exact Rat.mul_nonneg h0 (by grind)
  have k1 : (k : Rat) ≤ ((N : Int) : Rat) := by
    rw [← e]
    have := Rat.mul_le_mul_of_nonneg_right h1 (show (0 : Rat) ≤ ((N : Int) : Rat) by grind)
    grind
  have k0' : 0 ≤ k := by exact_mod_cast k0
  have k1' : k ≤ (N : Int) := by exact_mod_cast k1
  rw [eq]
  exact sz_div (by omega) (by omega) (by omega)
theorem LotN.sz {B m : Nat} {L : List Rat} (h : LotN B m L) (hB : B < 2 ^ 20) : ∀ q ∈ L, Sz 20 q := fun q hq => by
  obtain ⟨N, n0, n1, hk⟩ := h.cd
  obtain ⟨k, e⟩ := hk q hq
  have hq1 := le_sumR h.nn hq
  rw [h.one] at hq1
  exact sz_of n0 (by omega) (h.nn q hq) hq1 e
theorem fr_bnd {q : Rat} (h : Sz 20 q) (n : Nat) (hn : 2 ≤ n) (ls : List Nat) : bnd (n :: ls) (fr q) = true :=
  pair_bnd hn (decide_eq_true h.1) (decide_eq_true (by have := h.2; show (q.den : Int).natAbs < _; exact this))
theorem seq_bnd {n : Nat} {Q : List Rat} {b : Bool} (h : ∀ q ∈ Q, Sz 20 q) (hl : Q.length ≤ n) : bnd [n, 2] (mk b (Q.map fr)) = true := bnd_mk.mpr ⟨by rw [List.length_map]; exact hl, fun x hx => by
  obtain ⟨q, hq, rfl⟩ := List.mem_map.mp hx
  exact fr_bnd (h q hq) 2 (Nat.le_refl _) _⟩
theorem lot_bnd {n : Nat} {Q : List Rat} (h : ∀ q ∈ Q, Sz 20 q) (hl : Q.length ≤ n) : bnd [n, 2] (lotD Q) = true := seq_bnd (b := false) h hl
theorem look_bnd {k n : Nat} {L : List (List Rat)} (h : ∀ l ∈ L, l.length ≤ n ∧ ∀ q ∈ l, Sz 20 q) (hl : L.length ≤ k) : bnd [k, n, 2] (lookD L) = true := (bnd_mk (b := true)).mpr ⟨by rw [List.length_map]; exact hl, fun x hx => by
  obtain ⟨l, hl, rfl⟩ := List.mem_map.mp hx
  exact lot_bnd (h l hl).2 (h l hl).1⟩
end Law

set_option maxRecDepth 100000
set_option linter.all false
namespace Law
open R PySem L2
local macro_rules | `(tactic| walk_at "ev") => `(tactic| simp only [mDef, En.start, oSeq, oIf, oRet, oSet, oOwn, putOwn_z, putOwn_s, oPar, oNx, oFail, oEx, m2, m1, mA, aCons, aNil, mB, mC, mCh, mT, mNot, mAnd, mOr, mAndV, mOrV, mNotV, mIf, mTup, mLst, mList, asB_b, allS_leaf, wipe_n, wipe_c, wset_z, wset_s, tYesM, oAsg, gPut, gTp, gsCons, gsNil, mSeq, seq_l, seq_t, bind_leaf, bind_fail, lineOk_1, lineOk_2, lineOk_3, mPeek_z, mPeek_s, mVar_z, mVar_s, put_z, put_s, opAdd_i, opSub_i, opNeg_i, cLt_i, cLe_i, cGt_i, cGe_i, cEq_i, cNe_i, fAbs_i, fInt_i, fLen_t, fLen_l, ix0, ix1, Bool.false_eq_true, Bool.not_true, Bool.not_false,
  List.length_cons, List.length_nil, List.map_cons, List.map_nil, List.cons_append, List.nil_append, List.replicate, Nat.reduceAdd, Nat.reduceSub, Nat.zero_add, if_true, if_false, ↓reduceIte])

theorem looks_is : b_law_looks_right = (oSeq (oFor (mSeq (m2 opAdd (mList (mLst (aCons (mVar 1) (aCons (mA fTuple (aCons (mPeek 1) aNil)) (aCons (mList (mLst aNil)) (aCons (mList (mLst (aCons (mTup aNil) aNil))) (aCons (fun _ => .leaf .non) (aCons (m2 opMul (mList (mLst (aCons (m2 opIx (mPeek 1) (fun _ => .leaf (.int 0))) aNil))) (fun _ => .leaf (.int 6))) (aCons (m2 opMul (mList (mLst (aCons (m2 opIx (mPeek 1) (fun _ => .leaf (.int 0))) aNil))) (fun _ => .leaf (.int 7))) aNil))))))))) (mList (mLc (mRange1 (fun _ => .leaf (.int 16))) [5] (gPut 5) tYesM (mA f_law_bent (aCons (mVar 0) (aCons (mVar 1) aNil))))))) (gPut 2)
  bK)
  (oRet (fun _ => .leaf (.bl true)))) := rfl
theorem papers_is : b_law_papers_right = (oSeq (oSet 5 (m2 opAdd (mList (mLst (aCons (mVar 3) (aCons (mA fTuple (aCons (mPeek 3) aNil)) (aCons (mList (mLc (mSeq (mPeek 3)) [10] (gPut 10) tYesM (mList (mListOf (mPeek 10))))) (aCons (fun _ => .leaf .non) (aCons (mList (mLst aNil)) (aCons (fun _ => .leaf (.int 0)) (aCons (mRevA (mPeek 3)) aNil))))))))) (mList (mLc (mRange1 (fun _ => .leaf (.int 12))) [9] (gPut 9) tYesM (mA f_law_bent (aCons (mVar 0) (aCons (mVar 3) aNil)))))))
  (oSeq (oFor (mSeq (mVar 5)) (gPut 6)
  (bG f_is_garbling f_law_is_garbling))
  (oSeq (oSet 5 (m2 opAdd (mList (mLst (aCons (mVar 4) (aCons (mTup (aCons (m2 opIx (mPeek 4) (fun _ => .leaf (.int 0))) (aCons (mA fTuple (aCons (m2 opIx (mPeek 4) (fun _ => .leaf (.int 1))) aNil)) aNil))) (aCons (fun _ => .leaf .non) (aCons (mTup aNil) (aCons (fun _ => .leaf (.int 0)) (aCons (mTup (aCons (m2 opIx (mPeek 4) (fun _ => .leaf (.int 0))) (aCons (mList (mLst aNil)) aNil))) (aCons (mRevA (mPeek 4)) aNil))))))))) (mList (mLc (mRange1 (fun _ => .leaf (.int 12))) [9] (gPut 9) tYesM (mA f_law_bent (aCons (mVar 0) (aCons (mVar 4) aNil)))))))
  (oSeq (oFor (mSeq (mVar 5)) (gPut 6)
  (bG f_is_better_choice f_law_is_better))
  (oRet (fun _ => .leaf (.bl true))))))) := rfl
theorem opAdd_l (xs ys : List D) : opAdd (.lst xs) (.lst ys) = lineOk (xs.length + ys.length) (.leaf (.lst (xs ++ ys))) := Eq.trans rfl rfl
theorem va_of {ls : List Nat} {d : D} (h : bnd ls d = true) (hm : ∀ i : Nat, i < ls.length → ls.getD i 0 ≤ VL.getD i 0) (hl : ls.length ≤ VL.length) : Va d := bnd_mono hm hl h
theorem look_va {d : D} (h : bnd [4, 4, 2] d = true) : Va d := va_of h (by decide) (by decide)
theorem look_bent {d : D} (h : bnd [4, 4, 2] d = true) : AllS Va (f_law_bent [.pot, d]) :=
  allS_mono (bent_S (ls := [4, 4, 2]) (by decide) (by decide) h) fun y hy => va_of (ls := [5, 5, 3, 2]) hy (by decide) (by decide)
theorem choice_bent {d : D} (h : bnd [2, 4, 4, 2] d = true) : AllS Va (f_law_bent [.pot, d]) :=
  allS_mono (bent_S (ls := [2, 4, 4, 2]) (by decide) (by decide) h) fun y hy => va_of (ls := [3, 5, 5, 3, 2]) hy (by decide) (by decide)
theorem lst_bnd {n : Nat} {ls : List Nat} {xs : List D} (hl : xs.length ≤ n) (h : ∀ x ∈ xs, bnd ls x = true) : bnd (n :: ls) (.lst xs) = true := (bnd_mk (b := true)).mpr ⟨hl, h⟩
theorem tup_bnd {n : Nat} {ls : List Nat} {xs : List D} (hl : xs.length ≤ n) (h : ∀ x ∈ xs, bnd ls x = true) : bnd (n :: ls) (.tup xs) = true := (bnd_mk (b := false)).mpr ⟨hl, h⟩
theorem looksright_S {L : List (List Rat)} (l1 : 1 ≤ L.length) (hb : bnd [4, 4, 2] (lookD L) = true) : AllS (fun r => r = .bl true) (f_law_looks_right [.pot, lookD L]) := by
  obtain ⟨g1, g2⟩ := (bnd_mk (b := true) (xs := L.map lotD)).mp hb
  obtain ⟨l0, r, rfl⟩ : ∃ l0 r, L = l0 :: r := by
    cases L with
    | nil => simp at l1
    | cons a b => exact ⟨a, b, rfl⟩
  have i0 : opIx (lookD (l0 :: r)) (.int 0) = .leaf (lotD l0) := ix_mk (b := true) (xs := (l0 :: r).map lotD) (k := 0) (by simp)
  have ft : fTuple [lookD (l0 :: r)] = .leaf (.tup ((l0 :: r).map lotD)) := rfl
  have m6 : opMul (.lst [lotD l0]) (.int 6) = .leaf (.lst [lotD l0, lotD l0, lotD l0, lotD l0, lotD l0, lotD l0]) := rfl
  have m7 : opMul (.lst [lotD l0]) (.int 7) = .leaf (.lst [lotD l0, lotD l0, lotD l0, lotD l0, lotD l0, lotD l0, lotD l0]) := rfl
  have b0 : bnd [4, 2] (lotD l0) = true := g2 _ (List.mem_map_of_mem List.mem_cons_self)
  have hbt := look_bent hb
  have bents : AllS (fun ys => ys.length = (List.range 16).length ∧ ∀ y ∈ ys, Va y) (mLc (mRange1 (fun _ => .leaf (.int 16))) [5] (gPut 5) tYesM (mA f_law_bent (aCons (mVar 0) (aCons (mVar 1) aNil))) [some ⟨false, .pot⟩, some ⟨false, lookD (l0 :: r)⟩, none, none, none, none]) := by
    refine mLcS (L := List.range 16) (dx := fun i : Nat => .int (i : Int)) (range1_at (n := 16) rfl (by omega)) (by rw [List.length_range]; omega) fun i hi => ⟨[some ⟨false, .pot⟩, some ⟨false, lookD (l0 :: r)⟩, none, none, none, some ⟨false, .int (i : Int)⟩], by walk_at "ev", rfl, ?_⟩
    generalize f_law_bent = fb at *
    simp only [mDef, En.start, oSeq, oIf, oRet, oSet, oOwn, putOwn_z, putOwn_s, oPar, oNx, oFail, oEx, _root_.R.m2, _root_.R.m1, _root_.R.mA, aCons, aNil, _root_.R.mB, _root_.R.mC, mCh, _root_.R.mT, mNot, mAnd, mOr, mAndV, mOrV, mNotV, mIf, mTup, mLst, mList, asB_b, allS_leaf, wipe_n, wipe_c, wset_z, wset_s, tYesM, oAsg, gPut, gTp, gsCons, gsNil, mSeq, seq_l, seq_t, bind_leaf, bind_fail, lineOk_1, lineOk_2, lineOk_3, mPeek_z, mPeek_s, mVar_z, mVar_s, put_z, put_s, opAdd_i, opSub_i, opNeg_i, cLt_i, cLe_i, cGt_i, cGe_i, cEq_i, cNe_i, fAbs_i, fInt_i, fLen_t, fLen_l, ix0, ix1, Bool.false_eq_true, Bool.not_true, Bool.not_false, List.length_cons, List.length_nil, List.map_cons, List.map_nil, List.cons_append, List.nil_append, List.replicate, Nat.reduceAdd, Nat.reduceSub, Nat.zero_add, if_true, if_false, ↓reduceIte]
    exact hbt
  have vs : ∀ d ∈ [lookD (l0 :: r), .tup ((l0 :: r).map lotD), .lst [], .lst [.tup []], .non, .lst [lotD l0, lotD l0, lotD l0, lotD l0, lotD l0, lotD l0], .lst [lotD l0, lotD l0, lotD l0, lotD l0, lotD l0, lotD l0, lotD l0]], Va d := by
    intro d hd
    simp only [List.mem_cons, List.not_mem_nil, or_false] at hd
    have sevn : ∀ zs : List D, zs.length ≤ 7 → (∀ z ∈ zs, z = lotD l0) → Va (.lst zs) := fun zs hl hz => va_of (ls := [7, 4, 2]) (lst_bnd hl fun z h => by rw [hz z h]; exact b0) (by decide) (by decide)
    rcases hd with rfl | rfl | rfl | rfl | rfl | rfl | rfl
    · exact look_va hb
    · exact look_va (tup_bnd g1 g2)
    · rfl
    · rfl
    · rfl
    · exact sevn _ (by simp) (by simp)
    · exact sevn _ (by simp) (by simp)
  have lK := fun (zs : List D) (h : ∀ d ∈ zs, Va d) => loopK (a := some ⟨false, .pot⟩) (b := some ⟨false, lookD (l0 :: r)⟩) (e := none) zs none none none h
  unfold f_law_looks_right
  rw [looks_is]
  clear hbt hb g1 g2 b0
  generalize lookD (l0 :: r) = v at *
  generalize lotD l0 = t0 at *
  generalize (l0 :: r).map lotD = rows at *
  generalize mLc = ml at *
  generalize bK = bk at *
  generalize opIx = oi at *
  generalize opMul = om at *
  generalize fTuple = fu at *
  unfold oFor
  generalize oLoop = ol at *
  simp only [mDef, En.start, oSeq, oIf, oRet, oSet, oOwn, putOwn_z, putOwn_s, oPar, oNx, oFail, oEx, _root_.R.m2, _root_.R.m1, _root_.R.mA, aCons, aNil, _root_.R.mB, _root_.R.mC, mCh, _root_.R.mT, mNot, mAnd, mOr, mAndV, mOrV, mNotV, mIf, mTup, mLst, mList, asB_b, allS_leaf, wipe_n, wipe_c, wset_z, wset_s, tYesM, oAsg, gPut, gTp, gsCons, gsNil, mSeq, seq_l, seq_t, bind_leaf, bind_fail, lineOk_1, lineOk_2, lineOk_3, mPeek_z, mPeek_s, mVar_z, mVar_s, put_z, put_s, opAdd_i, opSub_i, opNeg_i, cLt_i, cLe_i, cGt_i, cGe_i, cEq_i, cNe_i, fAbs_i, fInt_i, fLen_t, fLen_l, ix0, ix1, Bool.false_eq_true, Bool.not_true, Bool.not_false, List.length_cons, List.length_nil, List.map_cons, List.map_nil, List.cons_append, List.nil_append, List.replicate, Nat.reduceAdd, Nat.reduceSub, Nat.zero_add, if_true, if_false, ↓reduceIte, ft, i0, m6, m7, lineOk_s, Nat.reduceLeDiff]
  repeat rw [allS_bind]
  refine allS_mono bents fun zs hz => ?_
  obtain ⟨hzl, hz⟩ := hz
  rw [List.length_range] at hzl
  simp only [mDef, En.start, oSeq, oIf, oRet, oSet, oOwn, putOwn_z, putOwn_s, oPar, oNx, oFail, oEx, _root_.R.m2, _root_.R.m1, _root_.R.mA, aCons, aNil, _root_.R.mB, _root_.R.mC, mCh, _root_.R.mT, mNot, mAnd, mOr, mAndV, mOrV, mNotV, mIf, mTup, mLst, mList, asB_b, allS_leaf, wipe_n, wipe_c, wset_z, wset_s, tYesM, oAsg, gPut, gTp, gsCons, gsNil, mSeq, seq_l, seq_t, bind_leaf, bind_fail, lineOk_1, lineOk_2, lineOk_3, mPeek_z, mPeek_s, mVar_z, mVar_s, put_z, put_s, opAdd_i, opSub_i, opNeg_i, cLt_i, cLe_i, cGt_i, cGe_i, cEq_i, cNe_i, fAbs_i, fInt_i, fLen_t, fLen_l, ix0, ix1, Bool.false_eq_true, Bool.not_true, Bool.not_false, List.length_cons, List.length_nil, List.map_cons, List.map_nil, List.cons_append, List.nil_append, List.replicate, Nat.reduceAdd, Nat.reduceSub, Nat.zero_add, if_true, if_false, ↓reduceIte, opAdd_l]
  rw [lineOk_s _ _ (by simp [hzl])]
  simp only [mDef, En.start, oSeq, oIf, oRet, oSet, oOwn, putOwn_z, putOwn_s, oPar, oNx, oFail, oEx, _root_.R.m2, _root_.R.m1, _root_.R.mA, aCons, aNil, _root_.R.mB, _root_.R.mC, mCh, _root_.R.mT, mNot, mAnd, mOr, mAndV, mOrV, mNotV, mIf, mTup, mLst, mList, asB_b, allS_leaf, wipe_n, wipe_c, wset_z, wset_s, tYesM, oAsg, gPut, gTp, gsCons, gsNil, mSeq, seq_l, seq_t, bind_leaf, bind_fail, lineOk_1, lineOk_2, lineOk_3, mPeek_z, mPeek_s, mVar_z, mVar_s, put_z, put_s, opAdd_i, opSub_i, opNeg_i, cLt_i, cLe_i, cGt_i, cGe_i, cEq_i, cNe_i, fAbs_i, fInt_i, fLen_t, fLen_l, ix0, ix1, Bool.false_eq_true, Bool.not_true, Bool.not_false, List.length_cons, List.length_nil, List.map_cons, List.map_nil, List.cons_append, List.nil_append, List.replicate, Nat.reduceAdd, Nat.reduceSub, Nat.zero_add, if_true, if_false, ↓reduceIte]
  obtain ⟨z', x', y', e⟩ := lK _ fun d hd => (List.mem_append.mp hd).elim (vs d) (hz d)
  simp only [List.cons_append, List.nil_append] at e
  simp only [mDef, En.start, oSeq, oIf, oRet, oSet, oOwn, putOwn_z, putOwn_s, oPar, oNx, oFail, oEx, _root_.R.m2, _root_.R.m1, _root_.R.mA, aCons, aNil, _root_.R.mB, _root_.R.mC, mCh, _root_.R.mT, mNot, mAnd, mOr, mAndV, mOrV, mNotV, mIf, mTup, mLst, mList, asB_b, allS_leaf, wipe_n, wipe_c, wset_z, wset_s, tYesM, oAsg, gPut, gTp, gsCons, gsNil, mSeq, seq_l, seq_t, bind_leaf, bind_fail, lineOk_1, lineOk_2, lineOk_3, mPeek_z, mPeek_s, mVar_z, mVar_s, put_z, put_s, opAdd_i, opSub_i, opNeg_i, cLt_i, cLe_i, cGt_i, cGe_i, cEq_i, cNe_i, fAbs_i, fInt_i, fLen_t, fLen_l, ix0, ix1, Bool.false_eq_true, Bool.not_true, Bool.not_false, List.length_cons, List.length_nil, List.map_cons, List.map_nil, List.cons_append, List.nil_append, List.replicate, Nat.reduceAdd, Nat.reduceSub, Nat.zero_add, if_true, if_false, ↓reduceIte, e]
theorem papersright_S {m n : Nat} {L O T : List (List Rat)} (hL : Lk m L) (hO : Lk n O) (hlen : L.length = O.length) (hT : ∀ t ∈ T, t.length ≤ 4 ∧ ∀ q ∈ t, Sz 20 q) (t4 : T.length ≤ 4) {p : D} {as : List D} (hp : bnd [4, 4, 2] p = true) (ha : bnd [4, 4, 2] (.lst as) = true) :
    AllS (fun r => r = .bl true) (f_law_papers_right [.pot, lookD L, lookD O, lookD T, .tup [p, .lst as]]) := by
  have tb : bnd [4, 4, 2] (lookD T) = true := look_bnd hT t4
  obtain ⟨g1, g2⟩ := (bnd_mk (b := true) (xs := T.map lotD)).mp tb
  have cb : bnd [2, 4, 4, 2] (.tup [p, .lst as]) = true := tup_bnd (Nat.le_refl _) fun x hx => by
    simp only [List.mem_cons, List.not_mem_nil, or_false] at hx
    rcases hx with rfl | rfl <;> assumption
  have ft : fTuple [lookD T] = .leaf (.tup (T.map lotD)) := rfl
  have ft2 : fTuple [.lst as] = .leaf (.tup as) := rfl
  have i0 : opIx (.tup [p, .lst as]) (.int 0) = .leaf p := ix0 _ _
  have i1 : opIx (.tup [p, .lst as]) (.int 1) = .leaf (.lst as) := ix1 _ _ _
  have rv1 : ∀ E : En, mPeek 3 E = .leaf (lookD T) → mRevA (mPeek 3) E = .leaf (.lst (T.map lotD).reverse) := fun E h => rev_mk (b := true) h
  have rv2 : ∀ E : En, mPeek 4 E = .leaf (.tup [p, .lst as]) → mRevA (mPeek 4) E = .leaf (.tup [.lst as, p]) := fun E h => rev_mk (b := false) (xs := [p, .lst as]) h
  have hbt := look_bent tb
  have hbc := choice_bent cb
  have c1 : mLc (mSeq (mPeek 3)) [10] (gPut 10) tYesM (mList (mListOf (mPeek 10))) [some ⟨false, .pot⟩, some ⟨false, lookD L⟩, some ⟨false, lookD O⟩, some ⟨false, lookD T⟩, some ⟨false, .tup [p, .lst as]⟩, none, none, none, none, none, none] = .leaf (T.map fun t => .lst (t.map fr)) := by
    refine mLc_at (L := T) (dx := lotD) (by unfold lookD; simp only [mDef, En.start, oSeq, oIf, oRet, oSet, oOwn, putOwn_z, putOwn_s, oPar, oNx, oFail, oEx, _root_.R.m2, _root_.R.m1, _root_.R.mA, aCons, aNil, _root_.R.mB, _root_.R.mC, mCh, _root_.R.mT, mNot, mAnd, mOr, mAndV, mOrV, mNotV, mIf, mTup, mLst, mList, asB_b, allS_leaf, wipe_n, wipe_c, wset_z, wset_s, tYesM, oAsg, gPut, gTp, gsCons, gsNil, mSeq, seq_l, seq_t, bind_leaf, bind_fail, lineOk_1, lineOk_2, lineOk_3, mPeek_z, mPeek_s, mVar_z, mVar_s, put_z, put_s, opAdd_i, opSub_i, opNeg_i, cLt_i, cLe_i, cGt_i, cGe_i, cEq_i, cNe_i, fAbs_i, fInt_i, fLen_t, fLen_l, ix0, ix1, Bool.false_eq_true, Bool.not_true, Bool.not_false, List.length_cons, List.length_nil, List.map_cons, List.map_nil, List.cons_append, List.nil_append, List.replicate, Nat.reduceAdd, Nat.reduceSub, Nat.zero_add, if_true, if_false, ↓reduceIte]) (by omega) fun t ht => ⟨[some ⟨false, .pot⟩, some ⟨false, lookD L⟩, some ⟨false, lookD O⟩, some ⟨false, lookD T⟩, some ⟨false, .tup [p, .lst as]⟩, none, none, none, none, none, some ⟨false, lotD t⟩], by walk_at "ev", rfl, ?_⟩
    exact rfl
  have bents1 : AllS (fun ys => ys.length = (List.range 12).length ∧ ∀ y ∈ ys, Va y) (mLc (mRange1 (fun _ => .leaf (.int 12))) [9] (gPut 9) tYesM (mA f_law_bent (aCons (mVar 0) (aCons (mVar 3) aNil))) [some ⟨false, .pot⟩, some ⟨false, lookD L⟩, some ⟨false, lookD O⟩, some ⟨false, lookD T⟩, some ⟨false, .tup [p, .lst as]⟩, none, none, none, none, none, none]) := by
    refine mLcS (L := List.range 12) (dx := fun i : Nat => .int (i : Int)) (range1_at (n := 12) rfl (by omega)) (by rw [List.length_range]; omega) fun i hi => ⟨[some ⟨false, .pot⟩, some ⟨false, lookD L⟩, some ⟨false, lookD O⟩, some ⟨false, lookD T⟩, some ⟨false, .tup [p, .lst as]⟩, none, none, none, none, some ⟨false, .int (i : Int)⟩, none], by walk_at "ev", rfl, ?_⟩
    generalize f_law_bent = fb at *
    simp only [mDef, En.start, oSeq, oIf, oRet, oSet, oOwn, putOwn_z, putOwn_s, oPar, oNx, oFail, oEx, _root_.R.m2, _root_.R.m1, _root_.R.mA, aCons, aNil, _root_.R.mB, _root_.R.mC, mCh, _root_.R.mT, mNot, mAnd, mOr, mAndV, mOrV, mNotV, mIf, mTup, mLst, mList, asB_b, allS_leaf, wipe_n, wipe_c, wset_z, wset_s, tYesM, oAsg, gPut, gTp, gsCons, gsNil, mSeq, seq_l, seq_t, bind_leaf, bind_fail, lineOk_1, lineOk_2, lineOk_3, mPeek_z, mPeek_s, mVar_z, mVar_s, put_z, put_s, opAdd_i, opSub_i, opNeg_i, cLt_i, cLe_i, cGt_i, cGe_i, cEq_i, cNe_i, fAbs_i, fInt_i, fLen_t, fLen_l, ix0, ix1, Bool.false_eq_true, Bool.not_true, Bool.not_false, List.length_cons, List.length_nil, List.map_cons, List.map_nil, List.cons_append, List.nil_append, List.replicate, Nat.reduceAdd, Nat.reduceSub, Nat.zero_add, if_true, if_false, ↓reduceIte]
    exact hbt
  have bents2 : ∀ (v z x y : Option Slot), AllS (fun ys => ys.length = (List.range 12).length ∧ ∀ y ∈ ys, Va y) (mLc (mRange1 (fun _ => .leaf (.int 12))) [9] (gPut 9) tYesM (mA f_law_bent (aCons (mVar 0) (aCons (mVar 4) aNil))) [some ⟨false, .pot⟩, some ⟨false, lookD L⟩, some ⟨false, lookD O⟩, some ⟨false, lookD T⟩, some ⟨false, .tup [p, .lst as]⟩, v, z, x, y, none, none]) := by
    intro v z x y
    refine mLcS (L := List.range 12) (dx := fun i : Nat => .int (i : Int)) (range1_at (n := 12) rfl (by omega)) (by rw [List.length_range]; omega) fun i hi => ⟨[some ⟨false, .pot⟩, some ⟨false, lookD L⟩, some ⟨false, lookD O⟩, some ⟨false, lookD T⟩, some ⟨false, .tup [p, .lst as]⟩, v, z, x, y, some ⟨false, .int (i : Int)⟩, none], by walk_at "ev", rfl, ?_⟩
    generalize f_law_bent = fb at *
    simp only [mDef, En.start, oSeq, oIf, oRet, oSet, oOwn, putOwn_z, putOwn_s, oPar, oNx, oFail, oEx, _root_.R.m2, _root_.R.m1, _root_.R.mA, aCons, aNil, _root_.R.mB, _root_.R.mC, mCh, _root_.R.mT, mNot, mAnd, mOr, mAndV, mOrV, mNotV, mIf, mTup, mLst, mList, asB_b, allS_leaf, wipe_n, wipe_c, wset_z, wset_s, tYesM, oAsg, gPut, gTp, gsCons, gsNil, mSeq, seq_l, seq_t, bind_leaf, bind_fail, lineOk_1, lineOk_2, lineOk_3, mPeek_z, mPeek_s, mVar_z, mVar_s, put_z, put_s, opAdd_i, opSub_i, opNeg_i, cLt_i, cLe_i, cGt_i, cGe_i, cEq_i, cNe_i, fAbs_i, fInt_i, fLen_t, fLen_l, ix0, ix1, Bool.false_eq_true, Bool.not_true, Bool.not_false, List.length_cons, List.length_nil, List.map_cons, List.map_nil, List.cons_append, List.nil_append, List.replicate, Nat.reduceAdd, Nat.reduceSub, Nat.zero_add, if_true, if_false, ↓reduceIte]
    exact hbc
  have vs1 : ∀ d ∈ [lookD T, .tup (T.map lotD), .lst (T.map fun t => .lst (t.map fr)), .non, .lst [], .int 0, .lst (T.map lotD).reverse], Va d := by
    intro d hd
    simp only [List.mem_cons, List.not_mem_nil, or_false] at hd
    rcases hd with rfl | rfl | rfl | rfl | rfl | rfl | rfl
    · exact look_va tb
    · exact look_va (tup_bnd g1 g2)
    · refine look_va (lst_bnd (by rw [List.length_map]; exact t4) fun x hx => ?_)
      obtain ⟨t, ht, rfl⟩ := List.mem_map.mp hx
      exact seq_bnd (b := true) (hT t ht).2 (hT t ht).1
    · rfl
    · rfl
    · rfl
    · exact look_va (lst_bnd (by rw [List.length_reverse]; exact g1) fun x hx => g2 x (List.mem_reverse.mp hx))
  have cva : ∀ xs : List D, xs.length ≤ 2 → (∀ x ∈ xs, bnd [4, 4, 2] x = true) → Va (.tup xs) := fun xs hl hx => va_of (ls := [2, 4, 4, 2]) (tup_bnd hl hx) (by decide) (by decide)
  have at_ : bnd [4, 4, 2] (.tup as) = true := by
    obtain ⟨a, b⟩ := (bnd_mk (b := true) (xs := as)).mp ha
    exact tup_bnd a b
  have vs2 : ∀ d ∈ [.tup [p, .lst as], .tup [p, .tup as], .non, .tup [], .int 0, .tup [p, .lst []], .tup [.lst as, p]], Va d := by
    intro d hd
    simp only [List.mem_cons, List.not_mem_nil, or_false] at hd
    rcases hd with rfl | rfl | rfl | rfl | rfl | rfl | rfl
    · exact va_of cb (by decide) (by decide)
    · refine cva _ (Nat.le_refl _) fun x hx => ?_
      simp only [List.mem_cons, List.not_mem_nil, or_false] at hx
      rcases hx with rfl | rfl <;> assumption
    · rfl
    · rfl
    · rfl
    · refine cva _ (Nat.le_refl _) fun x hx => ?_
      simp only [List.mem_cons, List.not_mem_nil, or_false] at hx
      rcases hx with rfl | rfl
      · exact hp
      · rfl
    · refine cva _ (Nat.le_refl _) fun x hx => ?_
      simp only [List.mem_cons, List.not_mem_nil, or_false] at hx
      rcases hx with rfl | rfl <;> assumption
  have l1 := fun (f : Option Slot) (zs : List D) (h : ∀ d ∈ zs, Va d) => loopG (fp := f_is_garbling) (fl := f_law_is_garbling) (v := lookD L) (w := lookD O) (fun d hd => va_garbling hL hO hlen hd) (a := some ⟨false, .pot⟩) (c := some ⟨false, lookD T⟩) (e := some ⟨false, .tup [p, .lst as]⟩) (f := f) (i := none) (j := none) zs none none none h
  have l2 := fun (f z x y : Option Slot) (zs : List D) (h : ∀ d ∈ zs, Va d) => loopG (fp := f_is_better_choice) (fl := f_law_is_better) (v := lookD L) (w := lookD O) (fun d hd => va_better hL hO hlen hd) (a := some ⟨false, .pot⟩) (c := some ⟨false, lookD T⟩) (e := some ⟨false, .tup [p, .lst as]⟩) (f := f) (i := none) (j := none) zs z x y h
  unfold f_law_papers_right
  rw [papers_is]
  clear hbt hbc hL hO hlen hT t4 hp ha tb g1 g2 cb cva at_
  generalize hr : mRevA = mr at *
  generalize D.tup [p, .lst as] = ch at *
  generalize T.map lotD = Tm at *
  generalize (T.map fun t => D.lst (t.map fr)) = Tl at *
  generalize lookD L = u at *
  generalize lookD O = w at *
  generalize lookD T = tv at *
  have r1 : mr (mPeek 3) [some ⟨false, .pot⟩, some ⟨false, u⟩, some ⟨false, w⟩, some ⟨false, tv⟩, some ⟨false, ch⟩, none, none, none, none, none, none] = .leaf (.lst Tm.reverse) := rv1 _ rfl
  have r2 : ∀ f z x y : Option Slot, mr (mPeek 4) [some ⟨false, .pot⟩, some ⟨false, u⟩, some ⟨false, w⟩, some ⟨false, tv⟩, some ⟨false, ch⟩, f, z, x, y, none, none] = .leaf (.tup [.lst as, p]) := fun f z x y => rv2 _ rfl
  clear rv1 rv2
  generalize mLc = ml at *
  generalize bG f_is_garbling f_law_is_garbling = bg at *
  generalize bG f_is_better_choice f_law_is_better = bb at *
  generalize opIx = oi at *
  generalize fTuple = fu at *
  unfold oFor
  generalize oLoop = ol at *
  simp only [mDef, En.start, oSeq, oIf, oRet, oSet, oOwn, putOwn_z, putOwn_s, oPar, oNx, oFail, oEx, _root_.R.m2, _root_.R.m1, _root_.R.mA, aCons, aNil, _root_.R.mB, _root_.R.mC, mCh, _root_.R.mT, mNot, mAnd, mOr, mAndV, mOrV, mNotV, mIf, mTup, mLst, mList, asB_b, allS_leaf, wipe_n, wipe_c, wset_z, wset_s, tYesM, oAsg, gPut, gTp, gsCons, gsNil, mSeq, seq_l, seq_t, bind_leaf, bind_fail, lineOk_1, lineOk_2, lineOk_3, mPeek_z, mPeek_s, mVar_z, mVar_s, put_z, put_s, opAdd_i, opSub_i, opNeg_i, cLt_i, cLe_i, cGt_i, cGe_i, cEq_i, cNe_i, fAbs_i, fInt_i, fLen_t, fLen_l, ix0, ix1, Bool.false_eq_true, Bool.not_true, Bool.not_false, List.length_cons, List.length_nil, List.map_cons, List.map_nil, List.cons_append, List.nil_append, List.replicate, Nat.reduceAdd, Nat.reduceSub, Nat.zero_add, if_true, if_false, ↓reduceIte, ft, c1, r1, lineOk_s, Nat.reduceLeDiff]
  repeat rw [allS_bind]
  refine allS_mono bents1 fun zs hz => ?_
  obtain ⟨hzl, hz⟩ := hz
  rw [List.length_range] at hzl
  simp only [mDef, En.start, oSeq, oIf, oRet, oSet, oOwn, putOwn_z, putOwn_s, oPar, oNx, oFail, oEx, _root_.R.m2, _root_.R.m1, _root_.R.mA, aCons, aNil, _root_.R.mB, _root_.R.mC, mCh, _root_.R.mT, mNot, mAnd, mOr, mAndV, mOrV, mNotV, mIf, mTup, mLst, mList, asB_b, allS_leaf, wipe_n, wipe_c, wset_z, wset_s, tYesM, oAsg, gPut, gTp, gsCons, gsNil, mSeq, seq_l, seq_t, bind_leaf, bind_fail, lineOk_1, lineOk_2, lineOk_3, mPeek_z, mPeek_s, mVar_z, mVar_s, put_z, put_s, opAdd_i, opSub_i, opNeg_i, cLt_i, cLe_i, cGt_i, cGe_i, cEq_i, cNe_i, fAbs_i, fInt_i, fLen_t, fLen_l, ix0, ix1, Bool.false_eq_true, Bool.not_true, Bool.not_false, List.length_cons, List.length_nil, List.map_cons, List.map_nil, List.cons_append, List.nil_append, List.replicate, Nat.reduceAdd, Nat.reduceSub, Nat.zero_add, if_true, if_false, ↓reduceIte, opAdd_l]
  rw [lineOk_s _ _ (by simp [hzl])]
  simp only [mDef, En.start, oSeq, oIf, oRet, oSet, oOwn, putOwn_z, putOwn_s, oPar, oNx, oFail, oEx, _root_.R.m2, _root_.R.m1, _root_.R.mA, aCons, aNil, _root_.R.mB, _root_.R.mC, mCh, _root_.R.mT, mNot, mAnd, mOr, mAndV, mOrV, mNotV, mIf, mTup, mLst, mList, asB_b, allS_leaf, wipe_n, wipe_c, wset_z, wset_s, tYesM, oAsg, gPut, gTp, gsCons, gsNil, mSeq, seq_l, seq_t, bind_leaf, bind_fail, lineOk_1, lineOk_2, lineOk_3, mPeek_z, mPeek_s, mVar_z, mVar_s, put_z, put_s, opAdd_i, opSub_i, opNeg_i, cLt_i, cLe_i, cGt_i, cGe_i, cEq_i, cNe_i, fAbs_i, fInt_i, fLen_t, fLen_l, ix0, ix1, Bool.false_eq_true, Bool.not_true, Bool.not_false, List.length_cons, List.length_nil, List.map_cons, List.map_nil, List.cons_append, List.nil_append, List.replicate, Nat.reduceAdd, Nat.reduceSub, Nat.zero_add, if_true, if_false, ↓reduceIte]
  obtain ⟨z', x', y', e⟩ := l1 (some ⟨false, .lst ([tv, .tup Tm, .lst Tl, .non, .lst [], .int 0, .lst Tm.reverse] ++ zs)⟩) _ fun d hd => (List.mem_append.mp hd).elim (vs1 d) (hz d)
  simp only [List.cons_append, List.nil_append] at e
  simp only [mDef, En.start, oSeq, oIf, oRet, oSet, oOwn, putOwn_z, putOwn_s, oPar, oNx, oFail, oEx, _root_.R.m2, _root_.R.m1, _root_.R.mA, aCons, aNil, _root_.R.mB, _root_.R.mC, mCh, _root_.R.mT, mNot, mAnd, mOr, mAndV, mOrV, mNotV, mIf, mTup, mLst, mList, asB_b, allS_leaf, wipe_n, wipe_c, wset_z, wset_s, tYesM, oAsg, gPut, gTp, gsCons, gsNil, mSeq, seq_l, seq_t, bind_leaf, bind_fail, lineOk_1, lineOk_2, lineOk_3, mPeek_z, mPeek_s, mVar_z, mVar_s, put_z, put_s, opAdd_i, opSub_i, opNeg_i, cLt_i, cLe_i, cGt_i, cGe_i, cEq_i, cNe_i, fAbs_i, fInt_i, fLen_t, fLen_l, ix0, ix1, Bool.false_eq_true, Bool.not_true, Bool.not_false, List.length_cons, List.length_nil, List.map_cons, List.map_nil, List.cons_append, List.nil_append, List.replicate, Nat.reduceAdd, Nat.reduceSub, Nat.zero_add, if_true, if_false, ↓reduceIte, e]
  have bents2 := bents2 (some ⟨false, .lst (tv :: .tup Tm :: .lst Tl :: .non :: .lst [] :: .int 0 :: .lst Tm.reverse :: zs)⟩) z' x' y'
  simp only [mDef, En.start, oSeq, oIf, oRet, oSet, oOwn, putOwn_z, putOwn_s, oPar, oNx, oFail, oEx, _root_.R.m2, _root_.R.m1, _root_.R.mA, aCons, aNil, _root_.R.mB, _root_.R.mC, mCh, _root_.R.mT, mNot, mAnd, mOr, mAndV, mOrV, mNotV, mIf, mTup, mLst, mList, asB_b, allS_leaf, wipe_n, wipe_c, wset_z, wset_s, tYesM, oAsg, gPut, gTp, gsCons, gsNil, mSeq, seq_l, seq_t, bind_leaf, bind_fail, lineOk_1, lineOk_2, lineOk_3, mPeek_z, mPeek_s, mVar_z, mVar_s, put_z, put_s, opAdd_i, opSub_i, opNeg_i, cLt_i, cLe_i, cGt_i, cGe_i, cEq_i, cNe_i, fAbs_i, fInt_i, fLen_t, fLen_l, ix0, ix1, Bool.false_eq_true, Bool.not_true, Bool.not_false, List.length_cons, List.length_nil, List.map_cons, List.map_nil, List.cons_append, List.nil_append, List.replicate, Nat.reduceAdd, Nat.reduceSub, Nat.zero_add, if_true, if_false, ↓reduceIte, i0, i1, ft2, r2, lineOk_s, Nat.reduceLeDiff]
  repeat rw [allS_bind]
  refine allS_mono bents2 fun zs2 hz2 => ?_
  obtain ⟨hzl2, hz2⟩ := hz2
  rw [List.length_range] at hzl2
  simp only [mDef, En.start, oSeq, oIf, oRet, oSet, oOwn, putOwn_z, putOwn_s, oPar, oNx, oFail, oEx, _root_.R.m2, _root_.R.m1, _root_.R.mA, aCons, aNil, _root_.R.mB, _root_.R.mC, mCh, _root_.R.mT, mNot, mAnd, mOr, mAndV, mOrV, mNotV, mIf, mTup, mLst, mList, asB_b, allS_leaf, wipe_n, wipe_c, wset_z, wset_s, tYesM, oAsg, gPut, gTp, gsCons, gsNil, mSeq, seq_l, seq_t, bind_leaf, bind_fail, lineOk_1, lineOk_2, lineOk_3, mPeek_z, mPeek_s, mVar_z, mVar_s, put_z, put_s, opAdd_i, opSub_i, opNeg_i, cLt_i, cLe_i, cGt_i, cGe_i, cEq_i, cNe_i, fAbs_i, fInt_i, fLen_t, fLen_l, ix0, ix1, Bool.false_eq_true, Bool.not_true, Bool.not_false, List.length_cons, List.length_nil, List.map_cons, List.map_nil, List.cons_append, List.nil_append, List.replicate, Nat.reduceAdd, Nat.reduceSub, Nat.zero_add, if_true, if_false, ↓reduceIte, opAdd_l]
  rw [lineOk_s _ _ (by simp [hzl2])]
  simp only [mDef, En.start, oSeq, oIf, oRet, oSet, oOwn, putOwn_z, putOwn_s, oPar, oNx, oFail, oEx, _root_.R.m2, _root_.R.m1, _root_.R.mA, aCons, aNil, _root_.R.mB, _root_.R.mC, mCh, _root_.R.mT, mNot, mAnd, mOr, mAndV, mOrV, mNotV, mIf, mTup, mLst, mList, asB_b, allS_leaf, wipe_n, wipe_c, wset_z, wset_s, tYesM, oAsg, gPut, gTp, gsCons, gsNil, mSeq, seq_l, seq_t, bind_leaf, bind_fail, lineOk_1, lineOk_2, lineOk_3, mPeek_z, mPeek_s, mVar_z, mVar_s, put_z, put_s, opAdd_i, opSub_i, opNeg_i, cLt_i, cLe_i, cGt_i, cGe_i, cEq_i, cNe_i, fAbs_i, fInt_i, fLen_t, fLen_l, ix0, ix1, Bool.false_eq_true, Bool.not_true, Bool.not_false, List.length_cons, List.length_nil, List.map_cons, List.map_nil, List.cons_append, List.nil_append, List.replicate, Nat.reduceAdd, Nat.reduceSub, Nat.zero_add, if_true, if_false, ↓reduceIte]
  obtain ⟨z2, x2, y2, e2⟩ := l2 (some ⟨false, .lst ([ch, .tup [p, .tup as], .non, .tup [], .int 0, .tup [p, .lst []], .tup [.lst as, p]] ++ zs2)⟩) z' x' y' _ fun d hd => (List.mem_append.mp hd).elim (vs2 d) (hz2 d)
  simp only [List.cons_append, List.nil_append] at e2
  simp only [mDef, En.start, oSeq, oIf, oRet, oSet, oOwn, putOwn_z, putOwn_s, oPar, oNx, oFail, oEx, _root_.R.m2, _root_.R.m1, _root_.R.mA, aCons, aNil, _root_.R.mB, _root_.R.mC, mCh, _root_.R.mT, mNot, mAnd, mOr, mAndV, mOrV, mNotV, mIf, mTup, mLst, mList, asB_b, allS_leaf, wipe_n, wipe_c, wset_z, wset_s, tYesM, oAsg, gPut, gTp, gsCons, gsNil, mSeq, seq_l, seq_t, bind_leaf, bind_fail, lineOk_1, lineOk_2, lineOk_3, mPeek_z, mPeek_s, mVar_z, mVar_s, put_z, put_s, opAdd_i, opSub_i, opNeg_i, cLt_i, cLe_i, cGt_i, cGe_i, cEq_i, cNe_i, fAbs_i, fInt_i, fLen_t, fLen_l, ix0, ix1, Bool.false_eq_true, Bool.not_true, Bool.not_false, List.length_cons, List.length_nil, List.map_cons, List.map_nil, List.cons_append, List.nil_append, List.replicate, Nat.reduceAdd, Nat.reduceSub, Nat.zero_add, if_true, if_false, ↓reduceIte, e2]
end Law

set_option maxRecDepth 100000
set_option linter.all false
namespace Law
open R PySem L2
local macro_rules | `(tactic| walk_at "ev") => `(tactic| simp only [mDef, En.start, oSeq, oIf, oRet, oSet, oOwn, putOwn_z, putOwn_s, oPar, oNx, oFail, oEx, m2, m1, mA, aCons, aNil, mB, mC, mCh, mT, mNot, mAnd, mOr, mAndV, mOrV, mNotV, mIf, mTup, mLst, mList, asB_b, allS_leaf, wipe_n, wipe_c, wset_z, wset_s, tYesM, oAsg, gPut, gTp, gsCons, gsNil, mSeq, seq_l, seq_t, bind_leaf, bind_fail, lineOk_1, lineOk_2, lineOk_3, mPeek_z, mPeek_s, mVar_z, mVar_s, put_z, put_s, opAdd_i, opSub_i, opNeg_i, cLt_i, cLe_i, cGt_i, cGe_i, cEq_i, cNe_i, fAbs_i, fInt_i, fLen_t, fLen_l, ix0, ix1, Bool.false_eq_true, Bool.not_true, Bool.not_false,
  List.length_cons, List.length_nil, List.map_cons, List.map_nil, List.cons_append, List.nil_append, List.replicate, Nat.reduceAdd, Nat.reduceSub, Nat.zero_add, if_true, if_false, ↓reduceIte])
theorem pow_i {i j : Int} (h : powB i j = true) : opPow (.int i) (.int j) = .leaf (.int (i ^ j.toNat)) := if_pos h

def LkD (B s m : Nat) (d : D) : Prop := ∃ L : List (List Rat), d = lookD L ∧ L.length = s ∧ ∀ l ∈ L, LotN B m l
theorem lots_of {B m : Nat} : ∀ ys : List D, (∀ y ∈ ys, ∃ l, y = lotD l ∧ LotN B m l) → ∃ L : List (List Rat), ys = L.map lotD ∧ ∀ l ∈ L, LotN B m l
  | [], _ => ⟨[], rfl, fun _ h => nomatch h⟩
  | y :: ys, h => by
    obtain ⟨l, rfl, hl⟩ := h y List.mem_cons_self
    obtain ⟨L, rfl, hL⟩ := lots_of ys fun z hz => h z (List.mem_cons_of_mem _ hz)
    exact ⟨l :: L, rfl, fun t ht => (List.mem_cons.mp ht).elim (fun e => e ▸ hl) (hL t)⟩
theorem lotN_S {m : Nat} (m1 : 1 ≤ m) (m4 : m ≤ 4) : AllS (fun d => ∃ l, d = lotD l ∧ LotN 28 m l) (f_law_lot [.pot, .int (m : Int)]) := allS_mono (law_lot_S m1 m4) fun d hd => LotT.toN m4 hd
theorem look_S {s m : Nat} (s4 : s ≤ 4) (m1 : 1 ≤ m) (m4 : m ≤ 4) : AllS (LkD 28 s m) (f_law_look [.pot, .int (s : Int), .int (m : Int)]) := by
  have hc : AllS (fun ys => ys.length = (List.range s).length ∧ ∀ y ∈ ys, ∃ l, y = lotD l ∧ LotN 28 m l) (mLc (mRange1 (mPeek 1)) [3] (gPut 3) tYesM (mA f_law_lot (aCons (mVar 0) (aCons (mVar 2) aNil))) [some ⟨false, .pot⟩, some ⟨false, .int (s : Int)⟩, some ⟨false, .int (m : Int)⟩, none]) := by
    refine mLcS (L := List.range s) (dx := fun i : Nat => .int (i : Int)) (range1_at (by simp only [mDef, En.start, oSeq, oIf, oRet, oSet, oOwn, putOwn_z, putOwn_s, oPar, oNx, oFail, oEx, _root_.R.m2, _root_.R.m1, _root_.R.mA, aCons, aNil, _root_.R.mB, _root_.R.mC, mCh, _root_.R.mT, mNot, mAnd, mOr, mAndV, mOrV, mNotV, mIf, mTup, mLst, mList, asB_b, allS_leaf, wipe_n, wipe_c, wset_z, wset_s, tYesM, oAsg, gPut, gTp, gsCons, gsNil, mSeq, seq_l, seq_t, bind_leaf, bind_fail, lineOk_1, lineOk_2, lineOk_3, mPeek_z, mPeek_s, mVar_z, mVar_s, put_z, put_s, opAdd_i, opSub_i, opNeg_i, cLt_i, cLe_i, cGt_i, cGe_i, cEq_i, cNe_i, fAbs_i, fInt_i, fLen_t, fLen_l, ix0, ix1, Bool.false_eq_true, Bool.not_true, Bool.not_false, List.length_cons, List.length_nil, List.map_cons, List.map_nil, List.cons_append, List.nil_append, List.replicate, Nat.reduceAdd, Nat.reduceSub, Nat.zero_add, if_true, if_false, ↓reduceIte]) (by omega)) (by rw [List.length_range]; omega) fun z hz => ⟨[some ⟨false, .pot⟩, some ⟨false, .int (s : Int)⟩, some ⟨false, .int (m : Int)⟩, some ⟨false, .int (z : Int)⟩], by walk_at "ev", rfl, ?_⟩
    have k := lotN_S m1 m4
    generalize f_law_lot = fl at *
    simp only [mDef, En.start, oSeq, oIf, oRet, oSet, oOwn, putOwn_z, putOwn_s, oPar, oNx, oFail, oEx, _root_.R.m2, _root_.R.m1, _root_.R.mA, aCons, aNil, _root_.R.mB, _root_.R.mC, mCh, _root_.R.mT, mNot, mAnd, mOr, mAndV, mOrV, mNotV, mIf, mTup, mLst, mList, asB_b, allS_leaf, wipe_n, wipe_c, wset_z, wset_s, tYesM, oAsg, gPut, gTp, gsCons, gsNil, mSeq, seq_l, seq_t, bind_leaf, bind_fail, lineOk_1, lineOk_2, lineOk_3, mPeek_z, mPeek_s, mVar_z, mVar_s, put_z, put_s, opAdd_i, opSub_i, opNeg_i, cLt_i, cLe_i, cGt_i, cGe_i, cEq_i, cNe_i, fAbs_i, fInt_i, fLen_t, fLen_l, ix0, ix1, Bool.false_eq_true, Bool.not_true, Bool.not_false, List.length_cons, List.length_nil, List.map_cons, List.map_nil, List.cons_append, List.nil_append, List.replicate, Nat.reduceAdd, Nat.reduceSub, Nat.zero_add, if_true, if_false, ↓reduceIte]
    exact k
  unfold f_law_look b_law_look
  generalize mLc = ml at *
  simp only [mDef, En.start, oSeq, oIf, oRet, oSet, oOwn, putOwn_z, putOwn_s, oPar, oNx, oFail, oEx, _root_.R.m2, _root_.R.m1, _root_.R.mA, aCons, aNil, _root_.R.mB, _root_.R.mC, mCh, _root_.R.mT, mNot, mAnd, mOr, mAndV, mOrV, mNotV, mIf, mTup, mLst, mList, asB_b, allS_leaf, wipe_n, wipe_c, wset_z, wset_s, tYesM, oAsg, gPut, gTp, gsCons, gsNil, mSeq, seq_l, seq_t, bind_leaf, bind_fail, lineOk_1, lineOk_2, lineOk_3, mPeek_z, mPeek_s, mVar_z, mVar_s, put_z, put_s, opAdd_i, opSub_i, opNeg_i, cLt_i, cLe_i, cGt_i, cGe_i, cEq_i, cNe_i, fAbs_i, fInt_i, fLen_t, fLen_l, ix0, ix1, Bool.false_eq_true, Bool.not_true, Bool.not_false, List.length_cons, List.length_nil, List.map_cons, List.map_nil, List.cons_append, List.nil_append, List.replicate, Nat.reduceAdd, Nat.reduceSub, Nat.zero_add, if_true, if_false, ↓reduceIte]
  repeat rw [allS_bind]
  refine allS_mono hc fun ys hy => ?_
  simp only [mDef, En.start, oSeq, oIf, oRet, oSet, oOwn, putOwn_z, putOwn_s, oPar, oNx, oFail, oEx, _root_.R.m2, _root_.R.m1, _root_.R.mA, aCons, aNil, _root_.R.mB, _root_.R.mC, mCh, _root_.R.mT, mNot, mAnd, mOr, mAndV, mOrV, mNotV, mIf, mTup, mLst, mList, asB_b, allS_leaf, wipe_n, wipe_c, wset_z, wset_s, tYesM, oAsg, gPut, gTp, gsCons, gsNil, mSeq, seq_l, seq_t, bind_leaf, bind_fail, lineOk_1, lineOk_2, lineOk_3, mPeek_z, mPeek_s, mVar_z, mVar_s, put_z, put_s, opAdd_i, opSub_i, opNeg_i, cLt_i, cLe_i, cGt_i, cGe_i, cEq_i, cNe_i, fAbs_i, fInt_i, fLen_t, fLen_l, ix0, ix1, Bool.false_eq_true, Bool.not_true, Bool.not_false, List.length_cons, List.length_nil, List.map_cons, List.map_nil, List.cons_append, List.nil_append, List.replicate, Nat.reduceAdd, Nat.reduceSub, Nat.zero_add, if_true, if_false, ↓reduceIte]
  obtain ⟨L, rfl, hL⟩ := lots_of ys hy.2
  exact ⟨L, rfl, by have := hy.1; rw [List.length_map, List.length_range] at this; exact this, hL⟩
theorem acts_S {s : Nat} (s4 : s ≤ 4) : AllS (fun d => ∃ xs, d = .lst xs ∧ bnd [4, 4, 2] (.lst xs) = true) (f_law_acts [.pot, .int (s : Int)]) := by
  have d4 := drS 4 (by decide) (by decide)
  have d9 := drS 9 (by decide) (by decide)
  have d3 := drS 3 (by decide) (by decide)
  have inner : ∀ z : Nat, AllS (fun ys => ys.length = (List.range s).length ∧ ∀ y ∈ ys, bnd [2] y = true) (mLc (mRange1 (mPeek 1)) [3] (gPut 3) tYesM (mA f_law_frac (aCons (m2 opSub (mA f_law_draw (aCons (mVar 0) (aCons (fun _ => .leaf (.int 9)) aNil))) (fun _ => .leaf (.int 4))) (aCons (m2 opAdd (fun _ => .leaf (.int 1)) (mA f_law_draw (aCons (mVar 0) (aCons (fun _ => .leaf (.int 3)) aNil)))) aNil))) [some ⟨false, .pot⟩, some ⟨false, .int (s : Int)⟩, some ⟨false, .int (z : Int)⟩, none]) := by
    intro z
    refine mLcS (L := List.range s) (dx := fun i : Nat => .int (i : Int)) (range1_at (by simp only [mDef, En.start, oSeq, oIf, oRet, oSet, oOwn, putOwn_z, putOwn_s, oPar, oNx, oFail, oEx, _root_.R.m2, _root_.R.m1, _root_.R.mA, aCons, aNil, _root_.R.mB, _root_.R.mC, mCh, _root_.R.mT, mNot, mAnd, mOr, mAndV, mOrV, mNotV, mIf, mTup, mLst, mList, asB_b, allS_leaf, wipe_n, wipe_c, wset_z, wset_s, tYesM, oAsg, gPut, gTp, gsCons, gsNil, mSeq, seq_l, seq_t, bind_leaf, bind_fail, lineOk_1, lineOk_2, lineOk_3, mPeek_z, mPeek_s, mVar_z, mVar_s, put_z, put_s, opAdd_i, opSub_i, opNeg_i, cLt_i, cLe_i, cGt_i, cGe_i, cEq_i, cNe_i, fAbs_i, fInt_i, fLen_t, fLen_l, ix0, ix1, Bool.false_eq_true, Bool.not_true, Bool.not_false, List.length_cons, List.length_nil, List.map_cons, List.map_nil, List.cons_append, List.nil_append, List.replicate, Nat.reduceAdd, Nat.reduceSub, Nat.zero_add, if_true, if_false, ↓reduceIte]) (by omega)) (by rw [List.length_range]; omega) fun j hj => ⟨[some ⟨false, .pot⟩, some ⟨false, .int (s : Int)⟩, some ⟨false, .int (z : Int)⟩, some ⟨false, .int (j : Int)⟩], by walk_at "ev", rfl, ?_⟩
    have k := fun (a b : Int) (hb : 0 < b) (h1 : b.natAbs < BB) => law_frac_fr (t := a) hb h1
    generalize f_law_draw = fd at *
    generalize f_law_frac = ff at *
    simp only [mDef, En.start, oSeq, oIf, oRet, oSet, oOwn, putOwn_z, putOwn_s, oPar, oNx, oFail, oEx, _root_.R.m2, _root_.R.m1, _root_.R.mA, aCons, aNil, _root_.R.mB, _root_.R.mC, mCh, _root_.R.mT, mNot, mAnd, mOr, mAndV, mOrV, mNotV, mIf, mTup, mLst, mList, asB_b, allS_leaf, wipe_n, wipe_c, wset_z, wset_s, tYesM, oAsg, gPut, gTp, gsCons, gsNil, mSeq, seq_l, seq_t, bind_leaf, bind_fail, lineOk_1, lineOk_2, lineOk_3, mPeek_z, mPeek_s, mVar_z, mVar_s, put_z, put_s, opAdd_i, opSub_i, opNeg_i, cLt_i, cLe_i, cGt_i, cGe_i, cEq_i, cNe_i, fAbs_i, fInt_i, fLen_t, fLen_l, ix0, ix1, Bool.false_eq_true, Bool.not_true, Bool.not_false, List.length_cons, List.length_nil, List.map_cons, List.map_nil, List.cons_append, List.nil_append, List.replicate, Nat.reduceAdd, Nat.reduceSub, Nat.zero_add, if_true, if_false, ↓reduceIte]
    repeat rw [allS_bind]
    refine allS_go d9 fun a a0 a9 => ?_
    simp only [mDef, En.start, oSeq, oIf, oRet, oSet, oOwn, putOwn_z, putOwn_s, oPar, oNx, oFail, oEx, _root_.R.m2, _root_.R.m1, _root_.R.mA, aCons, aNil, _root_.R.mB, _root_.R.mC, mCh, _root_.R.mT, mNot, mAnd, mOr, mAndV, mOrV, mNotV, mIf, mTup, mLst, mList, asB_b, allS_leaf, wipe_n, wipe_c, wset_z, wset_s, tYesM, oAsg, gPut, gTp, gsCons, gsNil, mSeq, seq_l, seq_t, bind_leaf, bind_fail, lineOk_1, lineOk_2, lineOk_3, mPeek_z, mPeek_s, mVar_z, mVar_s, put_z, put_s, opAdd_i, opSub_i, opNeg_i, cLt_i, cLe_i, cGt_i, cGe_i, cEq_i, cNe_i, fAbs_i, fInt_i, fLen_t, fLen_l, ix0, ix1, Bool.false_eq_true, Bool.not_true, Bool.not_false, List.length_cons, List.length_nil, List.map_cons, List.map_nil, List.cons_append, List.nil_append, List.replicate, Nat.reduceAdd, Nat.reduceSub, Nat.zero_add, if_true, if_false, ↓reduceIte]
    repeat rw [allS_bind]
    refine allS_go d3 fun b b0 b3 => ?_
    simp only [mDef, En.start, oSeq, oIf, oRet, oSet, oOwn, putOwn_z, putOwn_s, oPar, oNx, oFail, oEx, _root_.R.m2, _root_.R.m1, _root_.R.mA, aCons, aNil, _root_.R.mB, _root_.R.mC, mCh, _root_.R.mT, mNot, mAnd, mOr, mAndV, mOrV, mNotV, mIf, mTup, mLst, mList, asB_b, allS_leaf, wipe_n, wipe_c, wset_z, wset_s, tYesM, oAsg, gPut, gTp, gsCons, gsNil, mSeq, seq_l, seq_t, bind_leaf, bind_fail, lineOk_1, lineOk_2, lineOk_3, mPeek_z, mPeek_s, mVar_z, mVar_s, put_z, put_s, opAdd_i, opSub_i, opNeg_i, cLt_i, cLe_i, cGt_i, cGe_i, cEq_i, cNe_i, fAbs_i, fInt_i, fLen_t, fLen_l, ix0, ix1, Bool.false_eq_true, Bool.not_true, Bool.not_false, List.length_cons, List.length_nil, List.map_cons, List.map_nil, List.cons_append, List.nil_append, List.replicate, Nat.reduceAdd, Nat.reduceSub, Nat.zero_add, if_true, if_false, ↓reduceIte]
    rw [k (a - 4) (1 + b) (by omega) (bb20 (by omega)), allS_leaf]
    exact fr_bnd (sz_div (by omega) (by omega) (by omega)) 2 (Nat.le_refl _) _
  unfold f_law_acts b_law_acts
  have hc : ∀ N : Nat, N ≤ 4 → AllS (fun ys => ys.length = (List.range N).length ∧ ∀ y ∈ ys, bnd [4, 2] y = true) (lcLoop (gPut 2) tYesM (mList (mLc (mRange1 (mPeek 1)) [3] (gPut 3) tYesM (mA f_law_frac (aCons (m2 opSub (mA f_law_draw (aCons (mVar 0) (aCons (fun _ => .leaf (.int 9)) aNil))) (fun _ => .leaf (.int 4))) (aCons (m2 opAdd (fun _ => .leaf (.int 1)) (mA f_law_draw (aCons (mVar 0) (aCons (fun _ => .leaf (.int 3)) aNil)))) aNil))))) [some ⟨false, .pot⟩, some ⟨false, .int (s : Int)⟩, none, none] ((List.range N).map fun i : Nat => .int (i : Int))) := by
    intro N hN
    refine lcS (List.range N) fun z hz => ⟨[some ⟨false, .pot⟩, some ⟨false, .int (s : Int)⟩, some ⟨false, .int (z : Int)⟩, none], by walk_at "ev", rfl, ?_⟩
    have iz := inner z
    generalize mLc = ml at *
    simp only [mDef, En.start, oSeq, oIf, oRet, oSet, oOwn, putOwn_z, putOwn_s, oPar, oNx, oFail, oEx, _root_.R.m2, _root_.R.m1, _root_.R.mA, aCons, aNil, _root_.R.mB, _root_.R.mC, mCh, _root_.R.mT, mNot, mAnd, mOr, mAndV, mOrV, mNotV, mIf, mTup, mLst, mList, asB_b, allS_leaf, wipe_n, wipe_c, wset_z, wset_s, tYesM, oAsg, gPut, gTp, gsCons, gsNil, mSeq, seq_l, seq_t, bind_leaf, bind_fail, lineOk_1, lineOk_2, lineOk_3, mPeek_z, mPeek_s, mVar_z, mVar_s, put_z, put_s, opAdd_i, opSub_i, opNeg_i, cLt_i, cLe_i, cGt_i, cGe_i, cEq_i, cNe_i, fAbs_i, fInt_i, fLen_t, fLen_l, ix0, ix1, Bool.false_eq_true, Bool.not_true, Bool.not_false, List.length_cons, List.length_nil, List.map_cons, List.map_nil, List.cons_append, List.nil_append, List.replicate, Nat.reduceAdd, Nat.reduceSub, Nat.zero_add, if_true, if_false, ↓reduceIte]
    repeat rw [allS_bind]
    refine allS_mono iz fun ys hy => ?_
    simp only [mDef, En.start, oSeq, oIf, oRet, oSet, oOwn, putOwn_z, putOwn_s, oPar, oNx, oFail, oEx, _root_.R.m2, _root_.R.m1, _root_.R.mA, aCons, aNil, _root_.R.mB, _root_.R.mC, mCh, _root_.R.mT, mNot, mAnd, mOr, mAndV, mOrV, mNotV, mIf, mTup, mLst, mList, asB_b, allS_leaf, wipe_n, wipe_c, wset_z, wset_s, tYesM, oAsg, gPut, gTp, gsCons, gsNil, mSeq, seq_l, seq_t, bind_leaf, bind_fail, lineOk_1, lineOk_2, lineOk_3, mPeek_z, mPeek_s, mVar_z, mVar_s, put_z, put_s, opAdd_i, opSub_i, opNeg_i, cLt_i, cLe_i, cGt_i, cGe_i, cEq_i, cNe_i, fAbs_i, fInt_i, fLen_t, fLen_l, ix0, ix1, Bool.false_eq_true, Bool.not_true, Bool.not_false, List.length_cons, List.length_nil, List.map_cons, List.map_nil, List.cons_append, List.nil_append, List.replicate, Nat.reduceAdd, Nat.reduceSub, Nat.zero_add, if_true, if_false, ↓reduceIte]
    exact lst_bnd (by have := hy.1; rw [List.length_range] at this; omega) hy.2
  have rg : ∀ N : Nat, N ≤ 4 → ((if rOk (N : Int) = true then Tree.leaf (rangeD 0 (N : Int)) else .fail : Tree (List D))) = .leaf ((List.range N).map fun i : Nat => .int (i : Int)) := fun N hN => by
    have := range1_at (m := fun _ => .leaf (.int (N : Int))) (E := []) (n := N) rfl (by omega)
    unfold mRange1 at this
    rw [bind_leaf] at this
    exact this
  generalize hme : (mList (mLc (mRange1 (mPeek 1)) [3] (gPut 3) tYesM (mA f_law_frac (aCons (m2 opSub (mA f_law_draw (aCons (mVar 0) (aCons (fun _ => .leaf (.int 9)) aNil))) (fun _ => .leaf (.int 4))) (aCons (m2 opAdd (fun _ => .leaf (.int 1)) (mA f_law_draw (aCons (mVar 0) (aCons (fun _ => .leaf (.int 3)) aNil)))) aNil))))) = me at *
  have whole : AllS (fun ys => ys.length ≤ 4 ∧ ∀ y ∈ ys, bnd [4, 2] y = true) (mLc (mRange1 (m2 opAdd (fun _ => .leaf (.int 1)) (mA f_law_draw (aCons (mVar 0) (aCons (fun _ => .leaf (.int 4)) aNil))))) [2] (gPut 2) tYesM me [some ⟨false, .pot⟩, some ⟨false, .int (s : Int)⟩, none, none]) := by
    unfold mLc mRange1
    generalize f_law_draw = fd at *
    generalize hlc : lcLoop = lc at *
    simp only [mDef, En.start, oSeq, oIf, oRet, oSet, oOwn, putOwn_z, putOwn_s, oPar, oNx, oFail, oEx, _root_.R.m2, _root_.R.m1, _root_.R.mA, aCons, aNil, _root_.R.mB, _root_.R.mC, mCh, _root_.R.mT, mNot, mAnd, mOr, mAndV, mOrV, mNotV, mIf, mTup, mLst, mList, asB_b, allS_leaf, wipe_n, wipe_c, wset_z, wset_s, tYesM, oAsg, gPut, gTp, gsCons, gsNil, mSeq, seq_l, seq_t, bind_leaf, bind_fail, lineOk_1, lineOk_2, lineOk_3, mPeek_z, mPeek_s, mVar_z, mVar_s, put_z, put_s, opAdd_i, opSub_i, opNeg_i, cLt_i, cLe_i, cGt_i, cGe_i, cEq_i, cNe_i, fAbs_i, fInt_i, fLen_t, fLen_l, ix0, ix1, Bool.false_eq_true, Bool.not_true, Bool.not_false, List.length_cons, List.length_nil, List.map_cons, List.map_nil, List.cons_append, List.nil_append, List.replicate, Nat.reduceAdd, Nat.reduceSub, Nat.zero_add, if_true, if_false, ↓reduceIte]
    repeat rw [allS_bind]
    refine allS_go d4 fun i i0 i4 => ?_
    obtain ⟨i, rfl⟩ := Int.eq_ofNat_of_zero_le i0
    simp only [mDef, En.start, oSeq, oIf, oRet, oSet, oOwn, putOwn_z, putOwn_s, oPar, oNx, oFail, oEx, _root_.R.m2, _root_.R.m1, _root_.R.mA, aCons, aNil, _root_.R.mB, _root_.R.mC, mCh, _root_.R.mT, mNot, mAnd, mOr, mAndV, mOrV, mNotV, mIf, mTup, mLst, mList, asB_b, allS_leaf, wipe_n, wipe_c, wset_z, wset_s, tYesM, oAsg, gPut, gTp, gsCons, gsNil, mSeq, seq_l, seq_t, bind_leaf, bind_fail, lineOk_1, lineOk_2, lineOk_3, mPeek_z, mPeek_s, mVar_z, mVar_s, put_z, put_s, opAdd_i, opSub_i, opNeg_i, cLt_i, cLe_i, cGt_i, cGe_i, cEq_i, cNe_i, fAbs_i, fInt_i, fLen_t, fLen_l, ix0, ix1, Bool.false_eq_true, Bool.not_true, Bool.not_false, List.length_cons, List.length_nil, List.map_cons, List.map_nil, List.cons_append, List.nil_append, List.replicate, Nat.reduceAdd, Nat.reduceSub, Nat.zero_add, if_true, if_false, ↓reduceIte]
    rw [show (1 : Int) + (i : Int) = ((1 + i : Nat) : Int) by omega, rg (1 + i) (by omega)]
    simp only [mDef, En.start, oSeq, oIf, oRet, oSet, oOwn, putOwn_z, putOwn_s, oPar, oNx, oFail, oEx, _root_.R.m2, _root_.R.m1, _root_.R.mA, aCons, aNil, _root_.R.mB, _root_.R.mC, mCh, _root_.R.mT, mNot, mAnd, mOr, mAndV, mOrV, mNotV, mIf, mTup, mLst, mList, asB_b, allS_leaf, wipe_n, wipe_c, wset_z, wset_s, tYesM, oAsg, gPut, gTp, gsCons, gsNil, mSeq, seq_l, seq_t, bind_leaf, bind_fail, lineOk_1, lineOk_2, lineOk_3, mPeek_z, mPeek_s, mVar_z, mVar_s, put_z, put_s, opAdd_i, opSub_i, opNeg_i, cLt_i, cLe_i, cGt_i, cGe_i, cEq_i, cNe_i, fAbs_i, fInt_i, fLen_t, fLen_l, ix0, ix1, Bool.false_eq_true, Bool.not_true, Bool.not_false, List.length_cons, List.length_nil, List.map_cons, List.map_nil, List.cons_append, List.nil_append, List.replicate, Nat.reduceAdd, Nat.reduceSub, Nat.zero_add, if_true, if_false, ↓reduceIte]
    rw [lineOk_s _ _ (by rw [List.length_map, List.length_range]; omega)]
    refine allS_mono (hc (1 + i) (by omega)) fun ys hy => ⟨?_, hy.2⟩
    have := hy.1
    rw [List.length_range] at this
    omega
  clear hc inner rg
  generalize f_law_draw = fd at *
  generalize mLc = ml at *
  simp only [mDef, En.start, oSeq, oIf, oRet, oSet, oOwn, putOwn_z, putOwn_s, oPar, oNx, oFail, oEx, _root_.R.m2, _root_.R.m1, _root_.R.mA, aCons, aNil, _root_.R.mB, _root_.R.mC, mCh, _root_.R.mT, mNot, mAnd, mOr, mAndV, mOrV, mNotV, mIf, mTup, mLst, mList, asB_b, allS_leaf, wipe_n, wipe_c, wset_z, wset_s, tYesM, oAsg, gPut, gTp, gsCons, gsNil, mSeq, seq_l, seq_t, bind_leaf, bind_fail, lineOk_1, lineOk_2, lineOk_3, mPeek_z, mPeek_s, mVar_z, mVar_s, put_z, put_s, opAdd_i, opSub_i, opNeg_i, cLt_i, cLe_i, cGt_i, cGe_i, cEq_i, cNe_i, fAbs_i, fInt_i, fLen_t, fLen_l, ix0, ix1, Bool.false_eq_true, Bool.not_true, Bool.not_false, List.length_cons, List.length_nil, List.map_cons, List.map_nil, List.cons_append, List.nil_append, List.replicate, Nat.reduceAdd, Nat.reduceSub, Nat.zero_add, if_true, if_false, ↓reduceIte]
  repeat rw [allS_bind]
  refine allS_mono whole fun ys hy => ?_
  simp only [mDef, En.start, oSeq, oIf, oRet, oSet, oOwn, putOwn_z, putOwn_s, oPar, oNx, oFail, oEx, _root_.R.m2, _root_.R.m1, _root_.R.mA, aCons, aNil, _root_.R.mB, _root_.R.mC, mCh, _root_.R.mT, mNot, mAnd, mOr, mAndV, mOrV, mNotV, mIf, mTup, mLst, mList, asB_b, allS_leaf, wipe_n, wipe_c, wset_z, wset_s, tYesM, oAsg, gPut, gTp, gsCons, gsNil, mSeq, seq_l, seq_t, bind_leaf, bind_fail, lineOk_1, lineOk_2, lineOk_3, mPeek_z, mPeek_s, mVar_z, mVar_s, put_z, put_s, opAdd_i, opSub_i, opNeg_i, cLt_i, cLe_i, cGt_i, cGe_i, cEq_i, cNe_i, fAbs_i, fInt_i, fLen_t, fLen_l, ix0, ix1, Bool.false_eq_true, Bool.not_true, Bool.not_false, List.length_cons, List.length_nil, List.map_cons, List.map_nil, List.cons_append, List.nil_append, List.replicate, Nat.reduceAdd, Nat.reduceSub, Nat.zero_add, if_true, if_false, ↓reduceIte]
  exact ⟨ys, rfl, lst_bnd hy.1 hy.2⟩
theorem right_S : AllS (fun r => r = .bl true) (f_law_right [.pot]) := by
  have d4 := drS 4 (by decide) (by decide)
  have d3 := drS 3 (by decide) (by decide)
  unfold f_law_right b_law_right
  have lk := fun (s m : Nat) (s4 : s ≤ 4) (m1 : 1 ≤ m) (m4 : m ≤ 4) => look_S (s := s) s4 m1 m4
  have tab : ∀ (m n : Nat) (m4 : m ≤ 4) (n1 : 1 ≤ n) (n4 : n ≤ 4) (a b : Option Slot), AllS (fun ys => ys.length = (List.range m).length ∧ ∀ y ∈ ys, ∃ l, y = lotD l ∧ LotN 28 n l) (mLc (mRange1 (mPeek 2)) [7] (gPut 7) tYesM (mA f_law_lot (aCons (mVar 0) (aCons (mVar 4) aNil))) [some ⟨false, .pot⟩, a, some ⟨false, .int (m : Int)⟩, b, some ⟨false, .int (n : Int)⟩, none, none, none]) := by
    intro m n m4 n1 n4 a b
    refine mLcS (L := List.range m) (dx := fun i : Nat => .int (i : Int)) (range1_at (by simp only [mDef, En.start, oSeq, oIf, oRet, oSet, oOwn, putOwn_z, putOwn_s, oPar, oNx, oFail, oEx, _root_.R.m2, _root_.R.m1, _root_.R.mA, aCons, aNil, _root_.R.mB, _root_.R.mC, mCh, _root_.R.mT, mNot, mAnd, mOr, mAndV, mOrV, mNotV, mIf, mTup, mLst, mList, asB_b, allS_leaf, wipe_n, wipe_c, wset_z, wset_s, tYesM, oAsg, gPut, gTp, gsCons, gsNil, mSeq, seq_l, seq_t, bind_leaf, bind_fail, lineOk_1, lineOk_2, lineOk_3, mPeek_z, mPeek_s, mVar_z, mVar_s, put_z, put_s, opAdd_i, opSub_i, opNeg_i, cLt_i, cLe_i, cGt_i, cGe_i, cEq_i, cNe_i, fAbs_i, fInt_i, fLen_t, fLen_l, ix0, ix1, Bool.false_eq_true, Bool.not_true, Bool.not_false, List.length_cons, List.length_nil, List.map_cons, List.map_nil, List.cons_append, List.nil_append, List.replicate, Nat.reduceAdd, Nat.reduceSub, Nat.zero_add, if_true, if_false, ↓reduceIte]) (by omega)) (by rw [List.length_range]; omega) fun z hz => ⟨[some ⟨false, .pot⟩, a, some ⟨false, .int (m : Int)⟩, b, some ⟨false, .int (n : Int)⟩, none, none, some ⟨false, .int (z : Int)⟩], by walk_at "ev", rfl, ?_⟩
    have k := lotN_S n1 n4
    generalize f_law_lot = fl at *
    simp only [mDef, En.start, oSeq, oIf, oRet, oSet, oOwn, putOwn_z, putOwn_s, oPar, oNx, oFail, oEx, _root_.R.m2, _root_.R.m1, _root_.R.mA, aCons, aNil, _root_.R.mB, _root_.R.mC, mCh, _root_.R.mT, mNot, mAnd, mOr, mAndV, mOrV, mNotV, mIf, mTup, mLst, mList, asB_b, allS_leaf, wipe_n, wipe_c, wset_z, wset_s, tYesM, oAsg, gPut, gTp, gsCons, gsNil, mSeq, seq_l, seq_t, bind_leaf, bind_fail, lineOk_1, lineOk_2, lineOk_3, mPeek_z, mPeek_s, mVar_z, mVar_s, put_z, put_s, opAdd_i, opSub_i, opNeg_i, cLt_i, cLe_i, cGt_i, cGe_i, cEq_i, cNe_i, fAbs_i, fInt_i, fLen_t, fLen_l, ix0, ix1, Bool.false_eq_true, Bool.not_true, Bool.not_false, List.length_cons, List.length_nil, List.map_cons, List.map_nil, List.cons_append, List.nil_append, List.replicate, Nat.reduceAdd, Nat.reduceSub, Nat.zero_add, if_true, if_false, ↓reduceIte]
    exact k
  have lot := fun (s : Nat) (s1 : 1 ≤ s) (s4 : s ≤ 4) => lotN_S s1 s4
  have act := fun (s : Nat) (s4 : s ≤ 4) => acts_S (s := s) s4
  have gr := fun (n : Nat) (L T : List (List Rat)) (hT : Tb n T) (n8 : n ≤ 8) (hL : Rw L) => lgarbled_fr hT n8 hL
  have p1 := fun (L : List (List Rat)) (h1 : 1 ≤ L.length) (hb : bnd [4, 4, 2] (lookD L) = true) => looksright_S h1 hb
  have p2 := fun (m n : Nat) (L O T : List (List Rat)) (hL : Lk m L) (hO : Lk n O) (hlen : L.length = O.length) (hT : ∀ t ∈ T, t.length ≤ 4 ∧ ∀ q ∈ t, Sz 20 q) (t4 : T.length ≤ 4) (p : D) (as : List D) (hp : bnd [4, 4, 2] p = true) (ha : bnd [4, 4, 2] (.lst as) = true) => papersright_S hL hO hlen hT t4 hp ha
  generalize f_law_draw = g1 at *
  generalize f_law_look = g2 at *
  generalize f_law_lot = g3 at *
  generalize f_law_acts = g4 at *
  generalize f_law_garbled = g5 at *
  generalize f_law_looks_right = g6 at *
  generalize f_law_papers_right = g7 at *
  generalize mLc = ml at *
  try simp only [mDef, En.start, oSeq, oIf, oRet, oSet, oOwn, putOwn_z, putOwn_s, oPar, oNx, oFail, oEx, _root_.R.m2, _root_.R.m1, _root_.R.mA, aCons, aNil, _root_.R.mB, _root_.R.mC, mCh, _root_.R.mT, mNot, mAnd, mOr, mAndV, mOrV, mNotV, mIf, mTup, mLst, mList, asB_b, allS_leaf, wipe_n, wipe_c, wset_z, wset_s, tYesM, oAsg, gPut, gTp, gsCons, gsNil, mSeq, seq_l, seq_t, bind_leaf, bind_fail, lineOk_1, lineOk_2, lineOk_3, mPeek_z, mPeek_s, mVar_z, mVar_s, put_z, put_s, opAdd_i, opSub_i, opNeg_i, cLt_i, cLe_i, cGt_i, cGe_i, cEq_i, cNe_i, fAbs_i, fInt_i, fLen_t, fLen_l, ix0, ix1, Bool.false_eq_true, Bool.not_true, Bool.not_false, List.length_cons, List.length_nil, List.map_cons, List.map_nil, List.cons_append, List.nil_append, List.replicate, Nat.reduceAdd, Nat.reduceSub, Nat.zero_add, if_true, if_false, ↓reduceIte]
  repeat rw [allS_bind]
  refine allS_go d4 fun s s0 s4 => ?_
  obtain ⟨s, rfl⟩ := Int.eq_ofNat_of_zero_le s0
  try simp only [mDef, En.start, oSeq, oIf, oRet, oSet, oOwn, putOwn_z, putOwn_s, oPar, oNx, oFail, oEx, _root_.R.m2, _root_.R.m1, _root_.R.mA, aCons, aNil, _root_.R.mB, _root_.R.mC, mCh, _root_.R.mT, mNot, mAnd, mOr, mAndV, mOrV, mNotV, mIf, mTup, mLst, mList, asB_b, allS_leaf, wipe_n, wipe_c, wset_z, wset_s, tYesM, oAsg, gPut, gTp, gsCons, gsNil, mSeq, seq_l, seq_t, bind_leaf, bind_fail, lineOk_1, lineOk_2, lineOk_3, mPeek_z, mPeek_s, mVar_z, mVar_s, put_z, put_s, opAdd_i, opSub_i, opNeg_i, cLt_i, cLe_i, cGt_i, cGe_i, cEq_i, cNe_i, fAbs_i, fInt_i, fLen_t, fLen_l, ix0, ix1, Bool.false_eq_true, Bool.not_true, Bool.not_false, List.length_cons, List.length_nil, List.map_cons, List.map_nil, List.cons_append, List.nil_append, List.replicate, Nat.reduceAdd, Nat.reduceSub, Nat.zero_add, if_true, if_false, ↓reduceIte]
  repeat rw [allS_bind]
  refine allS_go d4 fun m m0 m4 => ?_
  obtain ⟨m, rfl⟩ := Int.eq_ofNat_of_zero_le m0
  try simp only [mDef, En.start, oSeq, oIf, oRet, oSet, oOwn, putOwn_z, putOwn_s, oPar, oNx, oFail, oEx, _root_.R.m2, _root_.R.m1, _root_.R.mA, aCons, aNil, _root_.R.mB, _root_.R.mC, mCh, _root_.R.mT, mNot, mAnd, mOr, mAndV, mOrV, mNotV, mIf, mTup, mLst, mList, asB_b, allS_leaf, wipe_n, wipe_c, wset_z, wset_s, tYesM, oAsg, gPut, gTp, gsCons, gsNil, mSeq, seq_l, seq_t, bind_leaf, bind_fail, lineOk_1, lineOk_2, lineOk_3, mPeek_z, mPeek_s, mVar_z, mVar_s, put_z, put_s, opAdd_i, opSub_i, opNeg_i, cLt_i, cLe_i, cGt_i, cGe_i, cEq_i, cNe_i, fAbs_i, fInt_i, fLen_t, fLen_l, ix0, ix1, Bool.false_eq_true, Bool.not_true, Bool.not_false, List.length_cons, List.length_nil, List.map_cons, List.map_nil, List.cons_append, List.nil_append, List.replicate, Nat.reduceAdd, Nat.reduceSub, Nat.zero_add, if_true, if_false, ↓reduceIte]
  rw [show (1 : Int) + (s : Int) = ((1 + s : Nat) : Int) by omega, show (1 : Int) + (m : Int) = ((1 + m : Nat) : Int) by omega]
  obtain ⟨s', hs'⟩ : ∃ s', s' = 1 + s := ⟨_, rfl⟩
  obtain ⟨m', hm'⟩ : ∃ m', m' = 1 + m := ⟨_, rfl⟩
  rw [← hs', ← hm']
  have s1 : 1 ≤ s' := by omega
  have s4' : s' ≤ 4 := by omega
  have m1 : 1 ≤ m' := by omega
  have m4' : m' ≤ 4 := by omega
  clear hs' hm' s4 m4 s0 m0
  try simp only [mDef, En.start, oSeq, oIf, oRet, oSet, oOwn, putOwn_z, putOwn_s, oPar, oNx, oFail, oEx, _root_.R.m2, _root_.R.m1, _root_.R.mA, aCons, aNil, _root_.R.mB, _root_.R.mC, mCh, _root_.R.mT, mNot, mAnd, mOr, mAndV, mOrV, mNotV, mIf, mTup, mLst, mList, asB_b, allS_leaf, wipe_n, wipe_c, wset_z, wset_s, tYesM, oAsg, gPut, gTp, gsCons, gsNil, mSeq, seq_l, seq_t, bind_leaf, bind_fail, lineOk_1, lineOk_2, lineOk_3, mPeek_z, mPeek_s, mVar_z, mVar_s, put_z, put_s, opAdd_i, opSub_i, opNeg_i, cLt_i, cLe_i, cGt_i, cGe_i, cEq_i, cNe_i, fAbs_i, fInt_i, fLen_t, fLen_l, ix0, ix1, Bool.false_eq_true, Bool.not_true, Bool.not_false, List.length_cons, List.length_nil, List.map_cons, List.map_nil, List.cons_append, List.nil_append, List.replicate, Nat.reduceAdd, Nat.reduceSub, Nat.zero_add, if_true, if_false, ↓reduceIte]
  repeat rw [allS_bind]
  refine allS_mono (lk s' m' s4' m1 m4') fun dl hdl => ?_
  obtain ⟨L, rfl, hLl, hLr⟩ := hdl
  try simp only [mDef, En.start, oSeq, oIf, oRet, oSet, oOwn, putOwn_z, putOwn_s, oPar, oNx, oFail, oEx, _root_.R.m2, _root_.R.m1, _root_.R.mA, aCons, aNil, _root_.R.mB, _root_.R.mC, mCh, _root_.R.mT, mNot, mAnd, mOr, mAndV, mOrV, mNotV, mIf, mTup, mLst, mList, asB_b, allS_leaf, wipe_n, wipe_c, wset_z, wset_s, tYesM, oAsg, gPut, gTp, gsCons, gsNil, mSeq, seq_l, seq_t, bind_leaf, bind_fail, lineOk_1, lineOk_2, lineOk_3, mPeek_z, mPeek_s, mVar_z, mVar_s, put_z, put_s, opAdd_i, opSub_i, opNeg_i, cLt_i, cLe_i, cGt_i, cGe_i, cEq_i, cNe_i, fAbs_i, fInt_i, fLen_t, fLen_l, ix0, ix1, Bool.false_eq_true, Bool.not_true, Bool.not_false, List.length_cons, List.length_nil, List.map_cons, List.map_nil, List.cons_append, List.nil_append, List.replicate, Nat.reduceAdd, Nat.reduceSub, Nat.zero_add, if_true, if_false, ↓reduceIte]
  repeat rw [allS_bind]
  refine allS_go d3 fun n n0 n3 => ?_
  obtain ⟨n, rfl⟩ := Int.eq_ofNat_of_zero_le n0
  try simp only [mDef, En.start, oSeq, oIf, oRet, oSet, oOwn, putOwn_z, putOwn_s, oPar, oNx, oFail, oEx, _root_.R.m2, _root_.R.m1, _root_.R.mA, aCons, aNil, _root_.R.mB, _root_.R.mC, mCh, _root_.R.mT, mNot, mAnd, mOr, mAndV, mOrV, mNotV, mIf, mTup, mLst, mList, asB_b, allS_leaf, wipe_n, wipe_c, wset_z, wset_s, tYesM, oAsg, gPut, gTp, gsCons, gsNil, mSeq, seq_l, seq_t, bind_leaf, bind_fail, lineOk_1, lineOk_2, lineOk_3, mPeek_z, mPeek_s, mVar_z, mVar_s, put_z, put_s, opAdd_i, opSub_i, opNeg_i, cLt_i, cLe_i, cGt_i, cGe_i, cEq_i, cNe_i, fAbs_i, fInt_i, fLen_t, fLen_l, ix0, ix1, Bool.false_eq_true, Bool.not_true, Bool.not_false, List.length_cons, List.length_nil, List.map_cons, List.map_nil, List.cons_append, List.nil_append, List.replicate, Nat.reduceAdd, Nat.reduceSub, Nat.zero_add, if_true, if_false, ↓reduceIte]
  rw [show (1 : Int) + (n : Int) = ((1 + n : Nat) : Int) by omega]
  obtain ⟨n', hn'⟩ : ∃ n', n' = 1 + n := ⟨_, rfl⟩
  rw [← hn']
  have n1 : 1 ≤ n' := by omega
  have n4' : n' ≤ 4 := by omega
  clear hn' n3 n0
  try simp only [mDef, En.start, oSeq, oIf, oRet, oSet, oOwn, putOwn_z, putOwn_s, oPar, oNx, oFail, oEx, _root_.R.m2, _root_.R.m1, _root_.R.mA, aCons, aNil, _root_.R.mB, _root_.R.mC, mCh, _root_.R.mT, mNot, mAnd, mOr, mAndV, mOrV, mNotV, mIf, mTup, mLst, mList, asB_b, allS_leaf, wipe_n, wipe_c, wset_z, wset_s, tYesM, oAsg, gPut, gTp, gsCons, gsNil, mSeq, seq_l, seq_t, bind_leaf, bind_fail, lineOk_1, lineOk_2, lineOk_3, mPeek_z, mPeek_s, mVar_z, mVar_s, put_z, put_s, opAdd_i, opSub_i, opNeg_i, cLt_i, cLe_i, cGt_i, cGe_i, cEq_i, cNe_i, fAbs_i, fInt_i, fLen_t, fLen_l, ix0, ix1, Bool.false_eq_true, Bool.not_true, Bool.not_false, List.length_cons, List.length_nil, List.map_cons, List.map_nil, List.cons_append, List.nil_append, List.replicate, Nat.reduceAdd, Nat.reduceSub, Nat.zero_add, if_true, if_false, ↓reduceIte]
  repeat rw [allS_bind]
  refine allS_mono (tab m' n' m4' n1 n4' _ _) fun ts hts => ?_
  obtain ⟨T, rfl, hTr⟩ := lots_of ts hts.2
  have hTl : T.length = m' := by have := hts.1; rw [List.length_map, List.length_range] at this; exact this
  clear hts
  try simp only [mDef, En.start, oSeq, oIf, oRet, oSet, oOwn, putOwn_z, putOwn_s, oPar, oNx, oFail, oEx, _root_.R.m2, _root_.R.m1, _root_.R.mA, aCons, aNil, _root_.R.mB, _root_.R.mC, mCh, _root_.R.mT, mNot, mAnd, mOr, mAndV, mOrV, mNotV, mIf, mTup, mLst, mList, asB_b, allS_leaf, wipe_n, wipe_c, wset_z, wset_s, tYesM, oAsg, gPut, gTp, gsCons, gsNil, mSeq, seq_l, seq_t, bind_leaf, bind_fail, lineOk_1, lineOk_2, lineOk_3, mPeek_z, mPeek_s, mVar_z, mVar_s, put_z, put_s, opAdd_i, opSub_i, opNeg_i, cLt_i, cLe_i, cGt_i, cGe_i, cEq_i, cNe_i, fAbs_i, fInt_i, fLen_t, fLen_l, ix0, ix1, Bool.false_eq_true, Bool.not_true, Bool.not_false, List.length_cons, List.length_nil, List.map_cons, List.map_nil, List.cons_append, List.nil_append, List.replicate, Nat.reduceAdd, Nat.reduceSub, Nat.zero_add, if_true, if_false, ↓reduceIte]
  repeat rw [allS_bind]
  refine allS_mono (lot s' s1 s4') fun dp hdp => ?_
  obtain ⟨P, rfl, hP⟩ := hdp
  try simp only [mDef, En.start, oSeq, oIf, oRet, oSet, oOwn, putOwn_z, putOwn_s, oPar, oNx, oFail, oEx, _root_.R.m2, _root_.R.m1, _root_.R.mA, aCons, aNil, _root_.R.mB, _root_.R.mC, mCh, _root_.R.mT, mNot, mAnd, mOr, mAndV, mOrV, mNotV, mIf, mTup, mLst, mList, asB_b, allS_leaf, wipe_n, wipe_c, wset_z, wset_s, tYesM, oAsg, gPut, gTp, gsCons, gsNil, mSeq, seq_l, seq_t, bind_leaf, bind_fail, lineOk_1, lineOk_2, lineOk_3, mPeek_z, mPeek_s, mVar_z, mVar_s, put_z, put_s, opAdd_i, opSub_i, opNeg_i, cLt_i, cLe_i, cGt_i, cGe_i, cEq_i, cNe_i, fAbs_i, fInt_i, fLen_t, fLen_l, ix0, ix1, Bool.false_eq_true, Bool.not_true, Bool.not_false, List.length_cons, List.length_nil, List.map_cons, List.map_nil, List.cons_append, List.nil_append, List.replicate, Nat.reduceAdd, Nat.reduceSub, Nat.zero_add, if_true, if_false, ↓reduceIte]
  repeat rw [allS_bind]
  refine allS_mono (act s' s4') fun da hda => ?_
  obtain ⟨as, rfl, has⟩ := hda
  have szs : ∀ {k : Nat} {l : List Rat}, LotN 28 k l → ∀ q ∈ l, Sz 20 q := fun h => h.sz (by decide)
  have kL : Lk m' L := look_lk (B := 28) (by omega) (by omega) m1 (by omega) (by decide) hLr
  have tb : Tb n' T := ⟨by omega, by omega, fun t ht => ⟨(hTr t ht).len, szs (hTr t ht)⟩⟩
  have kG : Lk n' (garb L T n') := by
    refine look_lk (B := 28 * 28 ^ m') ?_ ?_ n1 (by omega) ?_ fun l hl => ?_
    · unfold garb; rw [List.length_map]; omega
    · unfold garb; rw [List.length_map]; omega
    · have : 28 ^ m' ≤ 28 ^ 4 := Nat.pow_le_pow_right (by omega) m4'
      omega
    · obtain ⟨l', hl', rfl⟩ := List.mem_map.mp hl
      exact garb_N (hLr l' hl') hTr hTl
  have hlen : L.length = (garb L T n').length := by unfold garb; rw [List.length_map]
  have bL : bnd [4, 4, 2] (lookD L) = true := look_bnd (fun l hl => ⟨by rw [(hLr l hl).len]; exact m4', szs (hLr l hl)⟩) (by omega)
  have hTb : ∀ t ∈ T, t.length ≤ 4 ∧ ∀ q ∈ t, Sz 20 q := fun t ht => ⟨by rw [(hTr t ht).len]; exact n4', szs (hTr t ht)⟩
  have hp : bnd [4, 4, 2] (lotD P) = true := bnd_mono (ls := [4, 2]) (by decide) (by decide) (lot_bnd (szs hP) (by rw [hP.len]; exact s4'))
  have q1 := p1 L (by omega) bL
  have q2 := p2 m' n' L (garb L T n') T kL kG hlen hTb (by omega) (lotD P) as hp has
  have q3 := p2 n' m' (garb L T n') L T kG kL hlen.symm hTb (by omega) (lotD P) as hp has
  have q4 := gr n' L T tb (by omega) kL.rw
  rw [show D.lst (T.map lotD) = lookD T from rfl] at q4 ⊢
  clear lk tab lot act gr p1 p2
  generalize lookD (garb L T n') = G at *
  generalize lookD L = v at *
  generalize lookD T = tv at *
  generalize lotD P = pv at *
  try simp only [mDef, En.start, oSeq, oIf, oRet, oSet, oOwn, putOwn_z, putOwn_s, oPar, oNx, oFail, oEx, _root_.R.m2, _root_.R.m1, _root_.R.mA, aCons, aNil, _root_.R.mB, _root_.R.mC, mCh, _root_.R.mT, mNot, mAnd, mOr, mAndV, mOrV, mNotV, mIf, mTup, mLst, mList, asB_b, allS_leaf, wipe_n, wipe_c, wset_z, wset_s, tYesM, oAsg, gPut, gTp, gsCons, gsNil, mSeq, seq_l, seq_t, bind_leaf, bind_fail, lineOk_1, lineOk_2, lineOk_3, mPeek_z, mPeek_s, mVar_z, mVar_s, put_z, put_s, opAdd_i, opSub_i, opNeg_i, cLt_i, cLe_i, cGt_i, cGe_i, cEq_i, cNe_i, fAbs_i, fInt_i, fLen_t, fLen_l, ix0, ix1, Bool.false_eq_true, Bool.not_true, Bool.not_false, List.length_cons, List.length_nil, List.map_cons, List.map_nil, List.cons_append, List.nil_append, List.replicate, Nat.reduceAdd, Nat.reduceSub, Nat.zero_add, if_true, if_false, ↓reduceIte]
  repeat rw [allS_bind]
  refine allS_mono q1 fun r hr => ?_
  subst hr
  simp only [mDef, En.start, oSeq, oIf, oRet, oSet, oOwn, putOwn_z, putOwn_s, oPar, oNx, oFail, oEx, _root_.R.m2, _root_.R.m1, _root_.R.mA, aCons, aNil, _root_.R.mB, _root_.R.mC, mCh, _root_.R.mT, mNot, mAnd, mOr, mAndV, mOrV, mNotV, mIf, mTup, mLst, mList, asB_b, allS_leaf, wipe_n, wipe_c, wset_z, wset_s, tYesM, oAsg, gPut, gTp, gsCons, gsNil, mSeq, seq_l, seq_t, bind_leaf, bind_fail, lineOk_1, lineOk_2, lineOk_3, mPeek_z, mPeek_s, mVar_z, mVar_s, put_z, put_s, opAdd_i, opSub_i, opNeg_i, cLt_i, cLe_i, cGt_i, cGe_i, cEq_i, cNe_i, fAbs_i, fInt_i, fLen_t, fLen_l, ix0, ix1, Bool.false_eq_true, Bool.not_true, Bool.not_false, List.length_cons, List.length_nil, List.map_cons, List.map_nil, List.cons_append, List.nil_append, List.replicate, Nat.reduceAdd, Nat.reduceSub, Nat.zero_add, if_true, if_false, ↓reduceIte, q4]
  repeat rw [allS_bind]
  refine allS_mono q2 fun r hr => ?_
  subst hr
  simp only [mDef, En.start, oSeq, oIf, oRet, oSet, oOwn, putOwn_z, putOwn_s, oPar, oNx, oFail, oEx, _root_.R.m2, _root_.R.m1, _root_.R.mA, aCons, aNil, _root_.R.mB, _root_.R.mC, mCh, _root_.R.mT, mNot, mAnd, mOr, mAndV, mOrV, mNotV, mIf, mTup, mLst, mList, asB_b, allS_leaf, wipe_n, wipe_c, wset_z, wset_s, tYesM, oAsg, gPut, gTp, gsCons, gsNil, mSeq, seq_l, seq_t, bind_leaf, bind_fail, lineOk_1, lineOk_2, lineOk_3, mPeek_z, mPeek_s, mVar_z, mVar_s, put_z, put_s, opAdd_i, opSub_i, opNeg_i, cLt_i, cLe_i, cGt_i, cGe_i, cEq_i, cNe_i, fAbs_i, fInt_i, fLen_t, fLen_l, ix0, ix1, Bool.false_eq_true, Bool.not_true, Bool.not_false, List.length_cons, List.length_nil, List.map_cons, List.map_nil, List.cons_append, List.nil_append, List.replicate, Nat.reduceAdd, Nat.reduceSub, Nat.zero_add, if_true, if_false, ↓reduceIte, q4]
  repeat rw [allS_bind]
  refine allS_mono q3 fun r hr => ?_
  try simp only [mDef, En.start, oSeq, oIf, oRet, oSet, oOwn, putOwn_z, putOwn_s, oPar, oNx, oFail, oEx, _root_.R.m2, _root_.R.m1, _root_.R.mA, aCons, aNil, _root_.R.mB, _root_.R.mC, mCh, _root_.R.mT, mNot, mAnd, mOr, mAndV, mOrV, mNotV, mIf, mTup, mLst, mList, asB_b, allS_leaf, wipe_n, wipe_c, wset_z, wset_s, tYesM, oAsg, gPut, gTp, gsCons, gsNil, mSeq, seq_l, seq_t, bind_leaf, bind_fail, lineOk_1, lineOk_2, lineOk_3, mPeek_z, mPeek_s, mVar_z, mVar_s, put_z, put_s, opAdd_i, opSub_i, opNeg_i, cLt_i, cLe_i, cGt_i, cGe_i, cEq_i, cNe_i, fAbs_i, fInt_i, fLen_t, fLen_l, ix0, ix1, Bool.false_eq_true, Bool.not_true, Bool.not_false, List.length_cons, List.length_nil, List.map_cons, List.map_nil, List.cons_append, List.nil_append, List.replicate, Nat.reduceAdd, Nat.reduceSub, Nat.zero_add, if_true, if_false, ↓reduceIte]
  exact hr
theorem max2_i (i j : Int) : fMax2 [.int i, .int j] = .leaf (.int (if j > i then j else i)) := rfl
theorem min2_i (i j : Int) : fMin2 [.int i, .int j] = .leaf (.int (if j < i then j else i)) := rfl
theorem pot_at {ml : En → Tree (List D)} {E : En} {p q : Int} (h : ml E = .leaf [.int p, .int q]) (h0 : 0 ≤ p) (h1 : 0 ≤ q) (h2 : q < 4294967296) : oPot ml E = .leaf (.rt .pot) := by
  unfold oPot
  rw [h]
  simp only [bind_leaf]
  refine if_pos ?_
  simp only [Bool.and_eq_true, decide_eq_true_eq]
  exact ⟨⟨h0, h1⟩, h2⟩
theorem small_bb {i : Int} (h : i.natAbs < 10 ^ 40) : i.natAbs < BB := Nat.lt_of_lt_of_le h (by decide +kernel)
theorem pot_core (c k : Int) (k0 : 0 ≤ k) (k1 : k < 4) {s : Option Slot} : (oPot (mLst (aCons (mA fMax2 (aCons (fun _ => .leaf (.int 0)) (aCons (m2 opSub (mPeek 2) (m2 opPow (fun _ => .leaf (.int 10)) (fun _ => .leaf (.int 18)))) aNil))) (aCons (m2 opAdd (m2 opMod (mA fInt (aCons (m2 opAdd (m2 opAdd (m2 opMul (m2 opMod (mA fInt (aCons (mPeek 2) aNil)) (fun _ => .leaf (.int 2147483549))) (fun _ => .leaf (.int 43487))) (m2 opMul (fun _ => .leaf (.int 1607)) (mPeek 1))) (fun _ => .leaf (.int 2861))) aNil)) (fun _ => .leaf (.int 2147483563))) (fun _ => .leaf (.int 1))) aNil)))) [s, some ⟨false, .int k⟩, some ⟨false, .int c⟩] = .leaf (.rt .pot) := by
  have m1 := opMod_i (i := c) (j := 2147483549) (by omega)
  have o2 := opMul_i (i := c % 2147483549) (j := 43487) (small_bb (by omega)) (small_bb (by omega))
  have o3 := opMul_i (i := 1607) (j := k) (small_bb (by omega)) (small_bb (by omega))
  have m2' := opMod_i (i := c % 2147483549 * 43487 + 1607 * k + 2861) (j := 2147483563) (by omega)
  have pw : opPow (.int 10) (.int 18) = .leaf (.int (10 ^ 18)) := pow_i (by decide)
  have mx := max2_i 0 (c - 10 ^ 18)
  have b1 : 0 ≤ (c % 2147483549 * 43487 + 1607 * k + 2861) % 2147483563 := by omega
  have b2 : (c % 2147483549 * 43487 + 1607 * k + 2861) % 2147483563 + 1 < 4294967296 := by omega
  refine pot_at (p := if c - 10 ^ 18 > 0 then c - 10 ^ 18 else 0) (q := (c % 2147483549 * 43487 + 1607 * k + 2861) % 2147483563 + 1) ?_ (by split <;> omega) (by omega) b2
  clear b1 b2 k0 k1
  generalize (c % 2147483549 * 43487 + 1607 * k + 2861) % 2147483563 = r1 at *
  generalize (if c - 10 ^ 18 > 0 then c - 10 ^ 18 else 0) = r2 at *
  generalize c % 2147483549 = r3 at *
  generalize (10 : Int) ^ 18 = r4 at *
  generalize (1607 : Int) * k = r5 at *
  generalize opMul = om at *
  generalize opMod = od at *
  generalize opPow = op at *
  generalize fMax2 = fx at *
  simp only [mDef, En.start, oSeq, oIf, oRet, oSet, oOwn, putOwn_z, putOwn_s, oPar, oNx, oFail, oEx, _root_.R.m2, _root_.R.m1, _root_.R.mA, aCons, aNil, _root_.R.mB, _root_.R.mC, mCh, _root_.R.mT, mNot, mAnd, mOr, mAndV, mOrV, mNotV, mIf, mTup, mLst, mList, asB_b, allS_leaf, wipe_n, wipe_c, wset_z, wset_s, tYesM, oAsg, gPut, gTp, gsCons, gsNil, mSeq, seq_l, seq_t, bind_leaf, bind_fail, lineOk_1, lineOk_2, lineOk_3, mPeek_z, mPeek_s, mVar_z, mVar_s, put_z, put_s, opAdd_i, opSub_i, opNeg_i, cLt_i, cLe_i, cGt_i, cGe_i, cEq_i, cNe_i, fAbs_i, fInt_i, fLen_t, fLen_l, ix0, ix1, Bool.false_eq_true, Bool.not_true, Bool.not_false, List.length_cons, List.length_nil, List.map_cons, List.map_nil, List.cons_append, List.nil_append, List.replicate, Nat.reduceAdd, Nat.reduceSub, Nat.zero_add, if_true, if_false, ↓reduceIte, pw, mx, m1, o2, o3, m2']
theorem scr_at (ns : List Int) (k : Int) (h0 : 0 ≤ k) (h : k < ns.length) : ∃ a, opIx (.scr ns) (.int k) = .leaf (.int a) := by
  obtain ⟨j, rfl⟩ := Int.eq_ofNat_of_zero_le h0
  have hj : j < ns.length := by omega
  refine ⟨ns[j], ?_⟩
  show ixO _ _ _ = _
  unfold ixO atI ixN
  simp [hj]

theorem law_pot_eq (ns : List Int) (k : Int) (k0 : 0 ≤ k) (k1 : k < 4) : f_law_pot [.scr ns, .int k] = .leaf .pot := by
  have o1 := opMul_i (i := 2861) (j := k) (small_bb (by omega)) (small_bb (by omega))
  have len : fLen [.scr ns] = .leaf (.int ns.length) := rfl
  have ix := scr_at ns k k0
  have ab : ∀ a : Int, ∃ b, fAbs [.int a] = .leaf (.int b) := fun a => ⟨_, fAbs_i a⟩
  have pc := fun c => pot_core c k k0 k1 (s := some ⟨false, .scr ns⟩)
  unfold f_law_pot b_law_pot
  revert pc
  generalize oPot (mLst (aCons (mA fMax2 (aCons (fun _ => .leaf (.int 0)) (aCons (m2 opSub (mPeek 2) (m2 opPow (fun _ => .leaf (.int 10)) (fun _ => .leaf (.int 18)))) aNil))) (aCons (m2 opAdd (m2 opMod (mA fInt (aCons (m2 opAdd (m2 opAdd (m2 opMul (m2 opMod (mA fInt (aCons (mPeek 2) aNil)) (fun _ => .leaf (.int 2147483549))) (fun _ => .leaf (.int 43487))) (m2 opMul (fun _ => .leaf (.int 1607)) (mPeek 1))) (fun _ => .leaf (.int 2861))) aNil)) (fun _ => .leaf (.int 2147483563))) (fun _ => .leaf (.int 1))) aNil))) = ot
  intro pc
  generalize (ns.length : Int) = n at *
  generalize opMul = om at *
  generalize opIx = oi at *
  generalize fLen = fl at *
  generalize fAbs = fa at *
  simp only [mDef, En.start, oSeq, oIf, oRet, oSet, oOwn, putOwn_z, putOwn_s, oPar, oNx, oFail, oEx, _root_.R.m2, _root_.R.m1, _root_.R.mA, aCons, aNil, _root_.R.mB, _root_.R.mC, mCh, _root_.R.mT, mNot, mAnd, mOr, mAndV, mOrV, mNotV, mIf, mTup, mLst, mList, asB_b, allS_leaf, wipe_n, wipe_c, wset_z, wset_s, tYesM, oAsg, gPut, gTp, gsCons, gsNil, mSeq, seq_l, seq_t, bind_leaf, bind_fail, lineOk_1, lineOk_2, lineOk_3, mPeek_z, mPeek_s, mVar_z, mVar_s, put_z, put_s, opAdd_i, opSub_i, opNeg_i, cLt_i, cLe_i, cGt_i, cGe_i, cEq_i, cNe_i, fAbs_i, fInt_i, fLen_t, fLen_l, ix0, ix1, Bool.false_eq_true, Bool.not_true, Bool.not_false, List.length_cons, List.length_nil, List.map_cons, List.map_nil, List.cons_append, List.nil_append, List.replicate, Nat.reduceAdd, Nat.reduceSub, Nat.zero_add, if_true, if_false, ↓reduceIte, o1, len]
  by_cases h : k < n
  · obtain ⟨a, ha⟩ := ix h
    obtain ⟨b, hb⟩ := ab a
    simp only [mDef, En.start, oSeq, oIf, oRet, oSet, oOwn, putOwn_z, putOwn_s, oPar, oNx, oFail, oEx, _root_.R.m2, _root_.R.m1, _root_.R.mA, aCons, aNil, _root_.R.mB, _root_.R.mC, mCh, _root_.R.mT, mNot, mAnd, mOr, mAndV, mOrV, mNotV, mIf, mTup, mLst, mList, asB_b, allS_leaf, wipe_n, wipe_c, wset_z, wset_s, tYesM, oAsg, gPut, gTp, gsCons, gsNil, mSeq, seq_l, seq_t, bind_leaf, bind_fail, lineOk_1, lineOk_2, lineOk_3, mPeek_z, mPeek_s, mVar_z, mVar_s, put_z, put_s, opAdd_i, opSub_i, opNeg_i, cLt_i, cLe_i, cGt_i, cGe_i, cEq_i, cNe_i, fAbs_i, fInt_i, fLen_t, fLen_l, ix0, ix1, Bool.false_eq_true, Bool.not_true, Bool.not_false, List.length_cons, List.length_nil, List.map_cons, List.map_nil, List.cons_append, List.nil_append, List.replicate, Nat.reduceAdd, Nat.reduceSub, Nat.zero_add, if_true, if_false, ↓reduceIte, decide_eq_true h, ha, hb, pc]
  · simp only [mDef, En.start, oSeq, oIf, oRet, oSet, oOwn, putOwn_z, putOwn_s, oPar, oNx, oFail, oEx, _root_.R.m2, _root_.R.m1, _root_.R.mA, aCons, aNil, _root_.R.mB, _root_.R.mC, mCh, _root_.R.mT, mNot, mAnd, mOr, mAndV, mOrV, mNotV, mIf, mTup, mLst, mList, asB_b, allS_leaf, wipe_n, wipe_c, wset_z, wset_s, tYesM, oAsg, gPut, gTp, gsCons, gsNil, mSeq, seq_l, seq_t, bind_leaf, bind_fail, lineOk_1, lineOk_2, lineOk_3, mPeek_z, mPeek_s, mVar_z, mVar_s, put_z, put_s, opAdd_i, opSub_i, opNeg_i, cLt_i, cLe_i, cGt_i, cGe_i, cEq_i, cNe_i, fAbs_i, fInt_i, fLen_t, fLen_l, ix0, ix1, Bool.false_eq_true, Bool.not_true, Bool.not_false, List.length_cons, List.length_nil, List.map_cons, List.map_nil, List.cons_append, List.nil_append, List.replicate, Nat.reduceAdd, Nat.reduceSub, Nat.zero_add, if_true, if_false, ↓reduceIte, decide_eq_false h, pc]
theorem bls_all : ∀ ys : List D, (∀ y ∈ ys, y = D.bl true) → fAll [.lst ys] = .leaf (.bl true)
  | ys, h => by
    have : ys = ys.map fun _ => D.bl true := by
      conv => lhs; rw [← List.map_id ys]
      exact List.map_congr_left fun y hy => h y hy
    rw [this]
    exact all_true ys
theorem law_S (ns : List Int) : AllS (fun r => r = .bl true) (f_law [.scr ns]) := by
  have h1 := right_S
  have h0 := fun (k : Nat) (hk : k < 2) => law_pot_eq ns (k : Int) (by omega) (by omega)
  have len : fLen [.scr ns] = .leaf (.int ns.length) := rfl
  have k2 := min2_i 2 ns.length
  have k3 := max2_i 1 (if (ns.length : Int) < 2 then (ns.length : Int) else 2)
  obtain ⟨N, hN, N1, N2⟩ : ∃ N : Nat, (if (if (ns.length : Int) < 2 then (ns.length : Int) else 2) > 1 then (if (ns.length : Int) < 2 then (ns.length : Int) else 2) else 1) = (N : Int) ∧ 1 ≤ N ∧ N ≤ 2 := by
    by_cases h : (ns.length : Int) < 2
    · rw [if_pos h]
      exact ⟨1, by split <;> omega, by omega, by omega⟩
    · rw [if_neg h]
      exact ⟨2, by omega, by omega, by omega⟩
  rw [hN] at k3
  have hr : mRange1 (mA fMax2 (aCons (fun _ => .leaf (.int 1)) (aCons (mA fMin2 (aCons (fun _ => .leaf (.int 2)) (aCons (mA fLen (aCons (mPeek 0) aNil)) aNil))) aNil))) [some ⟨false, .scr ns⟩, none] = .leaf ((List.range N).map fun i : Nat => .int (i : Int)) := by
    refine range1_at ?_ (by omega)
    generalize (ns.length : Int) = n at *
    generalize (N : Int) = N' at *
    generalize fMax2 = f1 at *
    generalize fMin2 = f2 at *
    generalize fLen = f3 at *
    simp only [mDef, En.start, oSeq, oIf, oRet, oSet, oOwn, putOwn_z, putOwn_s, oPar, oNx, oFail, oEx, _root_.R.m2, _root_.R.m1, _root_.R.mA, aCons, aNil, _root_.R.mB, _root_.R.mC, mCh, _root_.R.mT, mNot, mAnd, mOr, mAndV, mOrV, mNotV, mIf, mTup, mLst, mList, asB_b, allS_leaf, wipe_n, wipe_c, wset_z, wset_s, tYesM, oAsg, gPut, gTp, gsCons, gsNil, mSeq, seq_l, seq_t, bind_leaf, bind_fail, lineOk_1, lineOk_2, lineOk_3, mPeek_z, mPeek_s, mVar_z, mVar_s, put_z, put_s, opAdd_i, opSub_i, opNeg_i, cLt_i, cLe_i, cGt_i, cGe_i, cEq_i, cNe_i, fAbs_i, fInt_i, fLen_t, fLen_l, ix0, ix1, Bool.false_eq_true, Bool.not_true, Bool.not_false, List.length_cons, List.length_nil, List.map_cons, List.map_nil, List.cons_append, List.nil_append, List.replicate, Nat.reduceAdd, Nat.reduceSub, Nat.zero_add, if_true, if_false, ↓reduceIte, len, k2, k3]
  have hc : AllS (fun ys => ys.length = (List.range N).length ∧ ∀ y ∈ ys, y = D.bl true) (mLc (mRange1 (mA fMax2 (aCons (fun _ => .leaf (.int 1)) (aCons (mA fMin2 (aCons (fun _ => .leaf (.int 2)) (aCons (mA fLen (aCons (mPeek 0) aNil)) aNil))) aNil)))) [1] (gPut 1) tYesM (mA f_law_right (aCons (mA f_law_pot (aCons (mVar 0) (aCons (mVar 1) aNil))) aNil)) [some ⟨false, .scr ns⟩, none]) := by
    refine mLcS (L := List.range N) (dx := fun i : Nat => .int (i : Int)) (by exact hr) (by rw [List.length_range]; omega) fun z hz => ⟨[some ⟨false, .scr ns⟩, some ⟨false, .int (z : Int)⟩], by walk_at "ev", rfl, ?_⟩
    have hz := List.mem_range.mp hz
    have h0 := h0 z (by omega)
    generalize (z : Int) = z' at *
    generalize f_law_pot = f1 at *
    generalize f_law_right = f2 at *
    simp only [mDef, En.start, oSeq, oIf, oRet, oSet, oOwn, putOwn_z, putOwn_s, oPar, oNx, oFail, oEx, _root_.R.m2, _root_.R.m1, _root_.R.mA, aCons, aNil, _root_.R.mB, _root_.R.mC, mCh, _root_.R.mT, mNot, mAnd, mOr, mAndV, mOrV, mNotV, mIf, mTup, mLst, mList, asB_b, allS_leaf, wipe_n, wipe_c, wset_z, wset_s, tYesM, oAsg, gPut, gTp, gsCons, gsNil, mSeq, seq_l, seq_t, bind_leaf, bind_fail, lineOk_1, lineOk_2, lineOk_3, mPeek_z, mPeek_s, mVar_z, mVar_s, put_z, put_s, opAdd_i, opSub_i, opNeg_i, cLt_i, cLe_i, cGt_i, cGe_i, cEq_i, cNe_i, fAbs_i, fInt_i, fLen_t, fLen_l, ix0, ix1, Bool.false_eq_true, Bool.not_true, Bool.not_false, List.length_cons, List.length_nil, List.map_cons, List.map_nil, List.cons_append, List.nil_append, List.replicate, Nat.reduceAdd, Nat.reduceSub, Nat.zero_add, if_true, if_false, ↓reduceIte, h0]
    exact h1
  have hb := bls_all
  unfold f_law b_law
  clear hr h0 h1 k2 k3
  generalize fAll = f1 at *
  generalize mLc = ml at *
  walk_at "ev"
  repeat rw [allS_bind]
  refine allS_mono hc fun ys hy => ?_
  have e := hb ys hy.2
  simp only [mDef, En.start, oSeq, oIf, oRet, oSet, oOwn, putOwn_z, putOwn_s, oPar, oNx, oFail, oEx, _root_.R.m2, _root_.R.m1, _root_.R.mA, aCons, aNil, _root_.R.mB, _root_.R.mC, mCh, _root_.R.mT, mNot, mAnd, mOr, mAndV, mOrV, mNotV, mIf, mTup, mLst, mList, asB_b, allS_leaf, wipe_n, wipe_c, wset_z, wset_s, tYesM, oAsg, gPut, gTp, gsCons, gsNil, mSeq, seq_l, seq_t, bind_leaf, bind_fail, lineOk_1, lineOk_2, lineOk_3, mPeek_z, mPeek_s, mVar_z, mVar_s, put_z, put_s, opAdd_i, opSub_i, opNeg_i, cLt_i, cLe_i, cGt_i, cGe_i, cEq_i, cNe_i, fAbs_i, fInt_i, fLen_t, fLen_l, ix0, ix1, Bool.false_eq_true, Bool.not_true, Bool.not_false, List.length_cons, List.length_nil, List.map_cons, List.map_nil, List.cons_append, List.nil_append, List.replicate, Nat.reduceAdd, Nat.reduceSub, Nat.zero_add, if_true, if_false, ↓reduceIte, e]
end Law

set_option Elab.async false
set_option linter.all false
set_option maxRecDepth 100000
namespace Law
open PySem PySem.Spec PyProof.Rows L2 R
section
variable {P : Program} {w : World} {K : PySem.W.Frag} {mg : Str → Option Value} {h : Heap} {fa : Addr}
theorem end_mk (fns : Fns mg) (a_law_draw : At K mg "_law_draw" s_law_draw) (a_law_frac : At K mg "_law_frac" s_law_frac) (a_law_lot : At K mg "_law_lot" s_law_lot) (a_law_look : At K mg "_law_look" s_law_look) (a_law_acts : At K mg "_law_acts" s_law_acts) (a_law_pick : At K mg "_law_pick" s_law_pick) (a_law_bent : At K mg "_law_bent" s_law_bent) (a_law_is_list : At K mg "_law_is_list" s_law_is_list) (a_law_is_fraction : At K mg "_law_is_fraction" s_law_is_fraction) (a_law_plus : At K mg "_law_plus" s_law_plus) (a_law_sum : At K mg "_law_sum" s_law_sum) (a_law_is_lot : At K mg "_law_is_lot" s_law_is_lot) (a_law_is_look : At K mg "_law_is_look" s_law_is_look) (a_is_list : At K mg "is_list" s_is_list) (a_is_integer : At K mg "is_integer" s_is_integer) (a_divisor : At K mg "divisor" s_divisor) (a_is_fraction_of : At K mg "is_fraction_of" s_is_fraction_of) (a_reduced : At K mg "reduced" s_reduced) (a_add : At K mg "add" s_add) (a_total : At K mg "total" s_total) (a_is_lot_of : At K mg "is_lot_of" s_is_lot_of) (a_is_short : At K mg "is_short" s_is_short) (a_is_short_lot : At K mg "is_short_lot" s_is_short_lot) (a_are_lots : At K mg "are_lots" s_are_lots) (a_is_look_of : At K mg "is_look_of" s_is_look_of) (a_is_look : At K mg "is_look" s_is_look) (a_law_looks_right : At K mg "_law_looks_right" s_law_looks_right) (a_law_is_lot_like : At K mg "_law_is_lot_like" s_law_is_lot_like) (a_law_times : At K mg "_law_times" s_law_times) (a_law_garbled : At K mg "_law_garbled" s_law_garbled) (a_law_is_garbling : At K mg "_law_is_garbling" s_law_is_garbling) (a_check_look : At K mg "check_look" s_check_look) (a_check_looks : At K mg "check_looks" s_check_looks) (a_signs_of : At K mg "signs_of" s_signs_of) (a_multiply : At K mg "multiply" s_multiply) (a_products_sum : At K mg "products_sum" s_products_sum) (a_mixed_of : At K mg "mixed_of" s_mixed_of) (a_garbled_of : At K mg "garbled_of" s_garbled_of) (a_is_garbling_of : At K mg "is_garbling_of" s_is_garbling_of) (a_is_garbling : At K mg "is_garbling" s_is_garbling) (a_law_are_acts : At K mg "_law_are_acts" s_law_are_acts) (a_law_below : At K mg "_law_below" s_law_below) (a_law_worths : At K mg "_law_worths" s_law_worths) (a_law_greatest : At K mg "_law_greatest" s_law_greatest) (a_law_worth : At K mg "_law_worth" s_law_worth) (a_law_is_better : At K mg "_law_is_better" s_law_is_better) (a_are_acts : At K mg "are_acts" s_are_acts) (a_is_below : At K mg "is_below" s_is_below) (a_seen_with : At K mg "seen_with" s_seen_with) (a_gains_at : At K mg "gains_at" s_gains_at) (a_worth_by : At K mg "worth_by" s_worth_by) (a_best_of : At K mg "best_of" s_best_of) (a_plan_of : At K mg "plan_of" s_plan_of) (a_worth_of : At K mg "worth_of" s_worth_of) (a_is_better_choice : At K mg "is_better_choice" s_is_better_choice) (a_law_papers_right : At K mg "_law_papers_right" s_law_papers_right) (a_law_right : At K mg "_law_right" s_law_right) (a_law_pot : At K mg "_law_pot" s_law_pot) (a_law : At K mg "law" s_law) (k_MOST_ACTS : ConR K mg "MOST_ACTS" (.int 8)) (k_MOST_DIGITS : ConR K mg "MOST_DIGITS" (.int 1000000000000)) (k_MOST_PLACES : ConR K mg "MOST_PLACES" (.int 8)) (k_MOST_STATES : ConR K mg "MOST_STATES" (.int 6)) (k_NOUGHT : ConR K mg "NOUGHT" (.tup [(.int 0), (.int 1)])) (k_ONE : ConR K mg "ONE" (.tup [(.int 1), (.int 1)])) (nb : Nb mg) (hfa : mg "law" = some (.ref fa)) :
    ∃ fd : FuncData, (∀ (s : Shared) (v : Value), BindsTo s fd ⟨[v], []⟩ [("script", v)]) ∧ ∀ base : Heap, K.In base → base.Ns mainGlobals mg → (∀ x ∈ TBC, LamX.TabB base mg x.1 x.2.1) → FnG P w K mg base 13 fa fd ["script"] (spF K f_law) := by
  obtain ⟨f, fd, F, hm⟩ := id a_law
  have e := hfa.symm.trans hm
  cases e
  have F0 := F
  obtain ⟨oc, od, kV, doc, pm, an, cdv, ct, osl, e, lk, hcd⟩ := F.ex
  refine ⟨fd, fun s v => by rw [e]; exact .of_eq rfl, fun base KB GB tbs => all_ok fns a_law_draw a_law_frac a_law_lot a_law_look a_law_acts a_law_pick a_law_bent a_law_is_list a_law_is_fraction a_law_plus a_law_sum a_law_is_lot a_law_is_look a_is_list a_is_integer a_divisor a_is_fraction_of a_reduced a_add a_total a_is_lot_of a_is_short a_is_short_lot a_are_lots a_is_look_of a_is_look a_law_looks_right a_law_is_lot_like a_law_times a_law_garbled a_law_is_garbling a_check_look a_check_looks a_signs_of a_multiply a_products_sum a_mixed_of a_garbled_of a_is_garbling_of a_is_garbling a_law_are_acts a_law_below a_law_worths a_law_greatest a_law_worth a_law_is_better a_are_acts a_is_below a_seen_with a_gains_at a_worth_by a_best_of a_plan_of a_worth_of a_is_better_choice a_law_papers_right a_law_right a_law_pot a_law k_MOST_ACTS k_MOST_DIGITS k_MOST_PLACES k_MOST_STATES k_NOUGHT k_ONE nb fa fd F0⟩
end
end Law
open PySem PySem.W PyProof.Rows
set_option maxHeartbeats 0 in
theorem PySem.Challenge.cw_chancepairs_k90_any_value_as_look_garbli_holds : PySem.Challenge.rw_chancepairs_k90_any_value_as_look_garbli.Holds := by
  w_on; o_law; k_head; (case hw => w_witness2)
  k_fill
  refine R.walk_RG (l := PySem.Challenge.rw_chancepairs_k90_any_value_as_look_garbli) (n := 63) (k := 13) (x := "script") (fn := Law.f_law) rfl (by decide) rfl ⟨rfl, by decide, by decide⟩ (fun w h Y => PySem.W.kIn_of Y) (fun w x hx => nomatch (show x ∈ ([] : List (Addr × Addr × Str)) from hx)) ?F (fun ns _ _ => (Law.law_S ns).h)
  case F =>
    intro w mg fa h XL KX G hmg
    refine' Law.end_mk (fun n h => match n, h with | 0, _ => PySem.W.mg_of KX G (by kernel_rfl) | 1, _ => PySem.W.mg_of KX G (by kernel_rfl) | 2, _ => PySem.W.mg_of KX G (by kernel_rfl) | n + 3, h => (Nat.not_lt.mpr (show R.FNS.length ≤ n + 3 from Nat.le_add_left 3 n) h).elim) (R.at_of KX G ?a0 ?l0 ?c0 ?k0) (R.at_of KX G ?a1 ?l1 ?c1 ?k1) (R.at_of KX G ?a2 ?l2 ?c2 ?k2) (R.at_of KX G ?a3 ?l3 ?c3 ?k3) (R.at_of KX G ?a4 ?l4 ?c4 ?k4) (R.at_of KX G ?a5 ?l5 ?c5 ?k5) (R.at_of KX G ?a6 ?l6 ?c6 ?k6) (R.at_of KX G ?a7 ?l7 ?c7 ?k7) (R.at_of KX G ?a8 ?l8 ?c8 ?k8) (R.at_of KX G ?a9 ?l9 ?c9 ?k9) (R.at_of KX G ?a10 ?l10 ?c10 ?k10) (R.at_of KX G ?a11 ?l11 ?c11 ?k11) (R.at_of KX G ?a12 ?l12 ?c12 ?k12) (R.at_of KX G ?a13 ?l13 ?c13 ?k13) (R.at_of KX G ?a14 ?l14 ?c14 ?k14) (R.at_of KX G ?a15 ?l15 ?c15 ?k15) (R.at_of KX G ?a16 ?l16 ?c16 ?k16) (R.at_of KX G ?a17 ?l17 ?c17 ?k17) (R.at_of KX G ?a18 ?l18 ?c18 ?k18) (R.at_of KX G ?a19 ?l19 ?c19 ?k19) (R.at_of KX G ?a20 ?l20 ?c20 ?k20) (R.at_of KX G ?a21 ?l21 ?c21 ?k21) (R.at_of KX G ?a22 ?l22 ?c22 ?k22) (R.at_of KX G ?a23 ?l23 ?c23 ?k23) (R.at_of KX G ?a24 ?l24 ?c24 ?k24) (R.at_of KX G ?a25 ?l25 ?c25 ?k25) (R.at_of KX G ?a26 ?l26 ?c26 ?k26) (R.at_of KX G ?a27 ?l27 ?c27 ?k27) (R.at_of KX G ?a28 ?l28 ?c28 ?k28) (R.at_of KX G ?a29 ?l29 ?c29 ?k29) (R.at_of KX G ?a30 ?l30 ?c30 ?k30) (R.at_of KX G ?a31 ?l31 ?c31 ?k31) (R.at_of KX G ?a32 ?l32 ?c32 ?k32) (R.at_of KX G ?a33 ?l33 ?c33 ?k33) (R.at_of KX G ?a34 ?l34 ?c34 ?k34) (R.at_of KX G ?a35 ?l35 ?c35 ?k35) (R.at_of KX G ?a36 ?l36 ?c36 ?k36) (R.at_of KX G ?a37 ?l37 ?c37 ?k37) (R.at_of KX G ?a38 ?l38 ?c38 ?k38) (R.at_of KX G ?a39 ?l39 ?c39 ?k39) (R.at_of KX G ?a40 ?l40 ?c40 ?k40) (R.at_of KX G ?a41 ?l41 ?c41 ?k41) (R.at_of KX G ?a42 ?l42 ?c42 ?k42) (R.at_of KX G ?a43 ?l43 ?c43 ?k43) (R.at_of KX G ?a44 ?l44 ?c44 ?k44) (R.at_of KX G ?a45 ?l45 ?c45 ?k45) (R.at_of KX G ?a46 ?l46 ?c46 ?k46) (R.at_of KX G ?a47 ?l47 ?c47 ?k47) (R.at_of KX G ?a48 ?l48 ?c48 ?k48) (R.at_of KX G ?a49 ?l49 ?c49 ?k49) (R.at_of KX G ?a50 ?l50 ?c50 ?k50) (R.at_of KX G ?a51 ?l51 ?c51 ?k51) (R.at_of KX G ?a52 ?l52 ?c52 ?k52) (R.at_of KX G ?a53 ?l53 ?c53 ?k53) (R.at_of KX G ?a54 ?l54 ?c54 ?k54) (R.at_of KX G ?a55 ?l55 ?c55 ?k55) (R.at_of KX G ?a56 ?l56 ?c56 ?k56) (R.at_of KX G ?a57 ?l57 ?c57 ?k57) (R.at_of KX G ?a58 ?l58 ?c58 ?k58) (R.con_int KX G ?z_MOST_ACTS) (R.con_loose XL (by simp)) (R.con_int KX G ?z_MOST_PLACES) (R.con_int KX G ?z_MOST_STATES) (R.con_pair KX G ?z_NOUGHT ?y_NOUGHT) (R.con_pair KX G ?z_ONE ?y_ONE) ⟨PySem.W.mg_none_of KX G ?n_abs, PySem.W.mg_none_of KX G ?n_all, PySem.W.mg_none_of KX G ?n_bool, PySem.W.mg_none_of KX G ?n_divmod, PySem.W.mg_none_of KX G ?n_enumerate, PySem.W.mg_none_of KX G ?n_int, PySem.W.mg_none_of KX G ?n_isinstance, PySem.W.mg_none_of KX G ?n_len, PySem.W.mg_none_of KX G ?n_list, PySem.W.mg_none_of KX G ?n_max, PySem.W.mg_none_of KX G ?n_min, PySem.W.mg_none_of KX G ?n_range, PySem.W.mg_none_of KX G ?n_repr, PySem.W.mg_none_of KX G ?n_sum, PySem.W.mg_none_of KX G ?n_tuple, PySem.W.mg_none_of KX G ?n_zip⟩ hmg
    (case a0 => k_is); (case l0 => k_is); (case c0 => k_is); (case k0 => k_is); (case a1 => k_is); (case l1 => k_is); (case c1 => k_is); (case k1 => k_is); (case a2 => k_is); (case l2 => k_is); (case c2 => k_is); (case k2 => k_is); (case a3 => k_is); (case l3 => k_is); (case c3 => k_is); (case k3 => k_is); (case a4 => k_is); (case l4 => k_is); (case c4 => k_is); (case k4 => k_is); (case a5 => k_is); (case l5 => k_is); (case c5 => k_is); (case k5 => k_is); (case a6 => k_is); (case l6 => k_is); (case c6 => k_is); (case k6 => k_is); (case a7 => k_is); (case l7 => k_is); (case c7 => k_is); (case k7 => k_is); (case a8 => k_is); (case l8 => k_is); (case c8 => k_is); (case k8 => k_is); (case a9 => k_is); (case l9 => k_is); (case c9 => k_is); (case k9 => k_is); (case a10 => k_is); (case l10 => k_is); (case c10 => k_is); (case k10 => k_is); (case a11 => k_is); (case l11 => k_is); (case c11 => k_is); (case k11 => k_is); (case a12 => k_is); (case l12 => k_is); (case c12 => k_is); (case k12 => k_is); (case a13 => k_is); (case l13 => k_is); (case c13 => k_is); (case k13 => k_is); (case a14 => k_is); (case l14 => k_is); (case c14 => k_is); (case k14 => k_is); (case a15 => k_is); (case l15 => k_is); (case c15 => k_is); (case k15 => k_is); (case a16 => k_is); (case l16 => k_is); (case c16 => k_is); (case k16 => k_is); (case a17 => k_is); (case l17 => k_is); (case c17 => k_is); (case k17 => k_is); (case a18 => k_is); (case l18 => k_is); (case c18 => k_is); (case k18 => k_is); (case a19 => k_is); (case l19 => k_is); (case c19 => k_is); (case k19 => k_is); (case a20 => k_is); (case l20 => k_is); (case c20 => k_is); (case k20 => k_is); (case a21 => k_is); (case l21 => k_is); (case c21 => k_is); (case k21 => k_is); (case a22 => k_is); (case l22 => k_is); (case c22 => k_is); (case k22 => k_is); (case a23 => k_is); (case l23 => k_is); (case c23 => k_is); (case k23 => k_is); (case a24 => k_is); (case l24 => k_is); (case c24 => k_is); (case k24 => k_is); (case a25 => k_is); (case l25 => k_is); (case c25 => k_is); (case k25 => k_is); (case a26 => k_is); (case l26 => k_is); (case c26 => k_is); (case k26 => k_is); (case a27 => k_is); (case l27 => k_is); (case c27 => k_is); (case k27 => k_is); (case a28 => k_is); (case l28 => k_is); (case c28 => k_is); (case k28 => k_is); (case a29 => k_is); (case l29 => k_is); (case c29 => k_is); (case k29 => k_is); (case a30 => k_is); (case l30 => k_is); (case c30 => k_is); (case k30 => k_is); (case a31 => k_is); (case l31 => k_is); (case c31 => k_is); (case k31 => k_is); (case a32 => k_is); (case l32 => k_is); (case c32 => k_is); (case k32 => k_is); (case a33 => k_is); (case l33 => k_is); (case c33 => k_is); (case k33 => k_is); (case a34 => k_is); (case l34 => k_is); (case c34 => k_is); (case k34 => k_is); (case a35 => k_is); (case l35 => k_is); (case c35 => k_is); (case k35 => k_is); (case a36 => k_is); (case l36 => k_is); (case c36 => k_is); (case k36 => k_is); (case a37 => k_is); (case l37 => k_is); (case c37 => k_is); (case k37 => k_is); (case a38 => k_is); (case l38 => k_is); (case c38 => k_is); (case k38 => k_is); (case a39 => k_is); (case l39 => k_is); (case c39 => k_is); (case k39 => k_is); (case a40 => k_is); (case l40 => k_is); (case c40 => k_is); (case k40 => k_is); (case a41 => k_is); (case l41 => k_is); (case c41 => k_is); (case k41 => k_is); (case a42 => k_is); (case l42 => k_is); (case c42 => k_is); (case k42 => k_is); (case a43 => k_is); (case l43 => k_is); (case c43 => k_is); (case k43 => k_is); (case a44 => k_is); (case l44 => k_is); (case c44 => k_is); (case k44 => k_is); (case a45 => k_is); (case l45 => k_is); (case c45 => k_is); (case k45 => k_is); (case a46 => k_is); (case l46 => k_is); (case c46 => k_is); (case k46 => k_is); (case a47 => k_is); (case l47 => k_is); (case c47 => k_is); (case k47 => k_is); (case a48 => k_is); (case l48 => k_is); (case c48 => k_is); (case k48 => k_is); (case a49 => k_is); (case l49 => k_is); (case c49 => k_is); (case k49 => k_is); (case a50 => k_is); (case l50 => k_is); (case c50 => k_is); (case k50 => k_is); (case a51 => k_is); (case l51 => k_is); (case c51 => k_is); (case k51 => k_is); (case a52 => k_is); (case l52 => k_is); (case c52 => k_is); (case k52 => k_is); (case a53 => k_is); (case l53 => k_is); (case c53 => k_is); (case k53 => k_is); (case a54 => k_is); (case l54 => k_is); (case c54 => k_is); (case k54 => k_is); (case a55 => k_is); (case l55 => k_is); (case c55 => k_is); (case k55 => k_is); (case a56 => k_is); (case l56 => k_is); (case c56 => k_is); (case k56 => k_is); (case a57 => k_is); (case l57 => k_is); (case c57 => k_is); (case k57 => k_is); (case a58 => k_is); (case l58 => k_is); (case c58 => k_is); (case k58 => k_is); (case z_MOST_ACTS => k_is); (case z_MOST_PLACES => k_is); (case z_MOST_STATES => k_is); (case z_NOUGHT => k_is); (case y_NOUGHT => k_is); (case z_ONE => k_is); (case y_ONE => k_is); (case n_abs => k_is); (case n_all => k_is); (case n_bool => k_is); (case n_divmod => k_is); (case n_enumerate => k_is); (case n_int => k_is); (case n_isinstance => k_is); (case n_len => k_is); (case n_list => k_is); (case n_max => k_is); (case n_min => k_is); (case n_range => k_is); (case n_repr => k_is); (case n_sum => k_is); (case n_tuple => k_is); (case n_zip => k_is)
