import PyProof.Rows.All
import Wide.All
import OpenK.AllK
import Wide.FinOn
import HandS.ForMost
import HandS.Lambda
import HandS.Wide
import HandS.WideBits
import HandS.TupAny
import HandS.TupMul
import HandS.IsInst
import HandS.Zip
import HandS.Conv
import HandS.EndBits
import HandS.Style
import HandS.RaiseMore
import PyProof.ReprRoads
import HandS.SetFor
import HandS.TupLe
import HandS.WordsExc
import HandS.SortInts
import HandS.ExcCtx
import HandS.ExcInit
import HandS.ExcField
import HandS.Nested
import HandS.TryMany
import KE.KExcIs
import HandS.HotCalls
import HandS.Deep
import HandS.TupSets
import KE.SortData
import PySem.Challenge.RW_chancepairs_k21_nearest_refused
/-! this row: the code objects of the defs that make a lambda, their tables; defs as values; the kept lambdas; the classes' addresses (found by probing) -/
namespace R
open PySem
def TBC : List (Addr × Addr × Str) := [(506, 502, "_law_two_calls.<locals>.<lambda>"), (513, 509, "_law_lots_calls.<locals>.<lambda>"), (520, 516, "_law_lots_right.<locals>.<lambda>"), (527, 523, "_law_rest_right.<locals>.<lambda>"), (532, 530, "_law_let_right.<locals>.<lambda>")]
def TB : List (Addr × Str) := TBC.map fun x => (x.2.1, x.2.2)
def FNS : List (Addr × Str) := []
/-- a lambda of the text that is kept in a list: its name, what it takes from its def's frame, its text -/
structure CloT where
  q : Str
  ns : List Str
  params : Arguments
  body : Expr
  scope : Scope
/-- the lambdas of an expression, a statement, in the text's order -/
def lamsE : Nat → Expr → List Expr
  | 0, _ => []
  | _ + 1, .Lambda a b s p => [.Lambda a b s p]
  | n + 1, .List es _ => es.flatMap (lamsE n)
  | n + 1, .Tuple es _ _ => es.flatMap (lamsE n)
  | n + 1, .Call f es ks _ => lamsE n f ++ es.flatMap (lamsE n) ++ ks.flatMap fun k => lamsE n k.value
  | n + 1, .BinOp a _ b _ => lamsE n a ++ lamsE n b
  | n + 1, .UnaryOp _ a _ => lamsE n a
  | n + 1, .Compare a _ bs _ => lamsE n a ++ bs.flatMap (lamsE n)
  | n + 1, .BoolOp _ es _ => es.flatMap (lamsE n)
  | n + 1, .Subscript a b _ => lamsE n a ++ lamsE n b
  | _, _ => []
def lamsS : Nat → Stmt → List Expr
  | 0, _ => []
  | n + 1, .Assign _ e _ => lamsE n e
  | n + 1, .Expr e _ => lamsE n e
  | n + 1, .Return (some e) _ => lamsE n e
  | n + 1, .If c a b _ => lamsE n c ++ a.flatMap (lamsS n) ++ b.flatMap (lamsS n)
  | n + 1, .For _ i a b _ => lamsE n i ++ a.flatMap (lamsS n) ++ b.flatMap (lamsS n)
  | n + 1, .FunctionDef _ _ b _ _ _ _ _ _ _ => b.flatMap (lamsS n)
  | _, _ => []
def topAt (i : Nat) : Stmt := PySem.Challenge.rw_chancepairs_k21_nearest_refused.prog.main.body.getD i (.Pass ⟨0, 0, 0, 0⟩)
def mkClo (q : Str) : Option Expr → CloT
  | some (.Lambda a b s _) => ⟨q, ((s.names.filter fun y => y.2 == NameKind.free).map (·.1)).reverse, a, b, s⟩
  | _ => ⟨q, [], ⟨[], [], none, [], [], none, []⟩, .Constant .none 0 ⟨0, 0, 0, 0⟩, { kind := .function, names := [], isGenerator := false, isCoroutine := false, more := [] }⟩

def CLOS : List CloT := [mkClo "_law_two_calls.<locals>.<lambda>" (lamsS 60 (topAt 80))[0]?,
  mkClo "_law_two_calls.<locals>.<lambda>" (lamsS 60 (topAt 80))[1]?,
  mkClo "_law_two_calls.<locals>.<lambda>" (lamsS 60 (topAt 80))[2]?,
  mkClo "_law_two_calls.<locals>.<lambda>" (lamsS 60 (topAt 80))[3]?,
  mkClo "_law_lots_calls.<locals>.<lambda>" (lamsS 60 (topAt 81))[0]?,
  mkClo "_law_lots_calls.<locals>.<lambda>" (lamsS 60 (topAt 81))[1]?,
  mkClo "_law_lots_calls.<locals>.<lambda>" (lamsS 60 (topAt 81))[2]?,
  mkClo "_law_lots_calls.<locals>.<lambda>" (lamsS 60 (topAt 81))[3]?,
  mkClo "_law_lots_right.<locals>.<lambda>" (lamsS 60 (topAt 82))[0]?,
  mkClo "_law_lots_right.<locals>.<lambda>" (lamsS 60 (topAt 82))[1]?,
  mkClo "_law_lots_right.<locals>.<lambda>" (lamsS 60 (topAt 82))[2]?,
  mkClo "_law_lots_right.<locals>.<lambda>" (lamsS 60 (topAt 82))[3]?,
  mkClo "_law_lots_right.<locals>.<lambda>" (lamsS 60 (topAt 82))[4]?,
  mkClo "_law_lots_right.<locals>.<lambda>" (lamsS 60 (topAt 82))[5]?,
  mkClo "_law_lots_right.<locals>.<lambda>" (lamsS 60 (topAt 82))[6]?,
  mkClo "_law_rest_right.<locals>.<lambda>" (lamsS 60 (topAt 83))[0]?,
  mkClo "_law_rest_right.<locals>.<lambda>" (lamsS 60 (topAt 83))[1]?,
  mkClo "_law_rest_right.<locals>.<lambda>" (lamsS 60 (topAt 83))[2]?,
  mkClo "_law_rest_right.<locals>.<lambda>" (lamsS 60 (topAt 83))[3]?,
  mkClo "_law_rest_right.<locals>.<lambda>" (lamsS 60 (topAt 83))[4]?,
  mkClo "_law_rest_right.<locals>.<lambda>" (lamsS 60 (topAt 83))[5]?,
  mkClo "_law_rest_right.<locals>.<lambda>" (lamsS 60 (topAt 83))[6]?,
  mkClo "_law_let_right.<locals>.<lambda>" (lamsS 60 (topAt 84))[0]?,
  mkClo "_law_let_right.<locals>.<lambda>" (lamsS 60 (topAt 84))[1]?,
  mkClo "_law_let_right.<locals>.<lambda>" (lamsS 60 (topAt 84))[2]?,
  mkClo "_law_let_right.<locals>.<lambda>" (lamsS 60 (topAt 84))[3]?,
  mkClo "_law_let_right.<locals>.<lambda>" (lamsS 60 (topAt 84))[4]?]
def CLSA : List Addr := [131, 83, 95, 107, 119, 143, 57, 31, 44, 70]
def INITA : Addr := 28
end R

set_option Elab.async false
set_option linter.all false
set_option maxRecDepth 100000
/-! R: a plain-data reading over the hand layer. D: data; Tree: what a run gives, over all draws; a def is a plain function from data to trees. -/
namespace R
open PySem PySem.Spec PyProof.Rows L2

/-! ### runs -/
inductive Tree (α : Type) where
  | leaf (a : α)
  | fail
  | draw (n : Nat) (k : Nat → Tree α)
namespace Tree
variable {α β : Type}
def bind : Tree α → (α → Tree β) → Tree β
  | .leaf a, f => f a
  | .fail, _ => .fail
  | .draw n k, f => .draw n fun i => (k i).bind f
def all (P : α → Prop) : Tree α → Prop
  | .leaf a => P a
  | .fail => False
  | .draw n k => ∀ i, i < n → (k i).all P
theorem all_mono {P P' : α → Prop} (h : ∀ a, P a → P' a) : ∀ {t : Tree α}, t.all P → t.all P'
  | .leaf a, q => h a q
  | .fail, q => q
  | .draw n k, q => fun i hi => all_mono h (q i hi)
theorem all_bind {P : β → Prop} {f : α → Tree β} : ∀ {t : Tree α}, (t.bind f).all P ↔ t.all fun a => (f a).all P
  | .leaf a => Iff.rfl
  | .fail => Iff.rfl
  | .draw n k => ⟨fun q i hi => all_bind.mp (q i hi), fun q i hi => all_bind.mpr (q i hi)⟩
theorem all_and {P P' : α → Prop} : ∀ {t : Tree α}, t.all P → t.all P' → t.all fun a => P a ∧ P' a
  | .leaf a, p, q => ⟨p, q⟩
  | .fail, p, _ => p
  | .draw n k, p, q => fun i hi => all_and (p i hi) (q i hi)
def allB (P : α → Bool) : Tree α → Bool
  | .leaf a => P a
  | .fail => false
  | .draw n k => (List.range n).all fun i => (k i).allB P
theorem all_of_allB {P : α → Bool} : ∀ {t : Tree α}, t.allB P = true → t.all fun a => P a = true
  | .leaf _, q => q
  | .fail, q => by cases q
  | .draw n k, q => fun i hi => all_of_allB (List.all_eq_true.mp q i (List.mem_range.mpr hi))
def guard (c : Bool) (t : Tree α) : Tree α := if c = true then t else .fail
theorem all_guard {c : Bool} {t : Tree α} {P : α → Prop} (h : (guard c t).all P) : c = true ∧ t.all P := by
  unfold guard at h
  split at h
  · exact ⟨by assumption, h⟩
  · exact h.elim
end Tree

/-! ### data -/
inductive D where
  | non | bl (b : Bool) | int (i : Int) | str (x : Str) | tup (xs : List D) | lst (xs : List D) | pot | ty (n : String) | scr (ns : List Int) | dct | fn (n : Nat) | clo (n : Nat) (ds : List D) | inst (c : Nat) (ds : List D)

/-- what stands still (P), where the pots are (T) -/
structure Fz where
  P : Hp
  T : Addr → Prop
def PotOk (o : Option HO) : Prop := ∃ p q : Int, o = some (.lst [.int p, .int q]) ∧ 0 ≤ p ∧ 0 ≤ q ∧ q < 4294967296
/-- a thing known to the object -/
def uT (b : Addr) (o : Obj) : HO := .frz o (.ext fun h => h.get? b = some o)
/-- a lambda's function object: its code object is known -/
def CodOk (H : Hp) (o : Obj) : Prop := ∀ (q : Str) (params : Arguments) (body : Expr) (scope : Scope) (cl : List (Str × Addr)) (pm : Value) (c : Addr) (ctv : Value), o = PySem.W.kla_obj "<lambda>" q params body scope cl pm c ctv → H c = some (LamX.CodeO c q)
theorem codeO_ext {c : Addr} {q : Str} {u : HO} (h : u = LamX.CodeO c q) : (∀ xs, u ≠ .lst xs) ∧ ∀ ps, u ≠ .tbl ps := by
  subst h
  unfold LamX.CodeO
  exact ⟨fun xs z => (by cases z), fun ps z => (by cases z)⟩
structure Good (F : Fz) (H : Hp) : Prop where
  sub : Same F.P H
  pot : ∀ a, F.T a → F.P a = none ∧ PotOk (H a)
  nt : ∀ a ps, F.P a ≠ some (.tbl ps)
  tab : LamX.Tabs TB H
  cod : ∀ f o, F.P f = some (uT f o) → CodOk H o
/-- tables stay where only lists change -/
theorem tabs_stay {T : List (Addr × Str)} {H H' : Hp} (t : LamX.Tabs T H) (k : ∀ a o, H a = some o → (∀ xs, o ≠ .lst xs) → H' a = some o) : LamX.Tabs T H' := fun p hp => by
  obtain ⟨ps, h1, h2, h3⟩ := t p hp
  refine ⟨ps, k _ _ h1 (fun xs z => by cases z), h2, fun pos cv hc => ?_⟩
  obtain ⟨c, e, h⟩ := h3 pos cv hc
  exact ⟨c, e, k _ _ h fun xs z => by unfold LamX.CodeO at z; cases z⟩
theorem tabs_new {T : List (Addr × Str)} {H : Hp} {p : Addr} {o : HO} (t : LamX.Tabs T H) (hp : H p = none) : LamX.Tabs T (upd H p o) := t.ext fun b u e => by rw [upd_ne (ne_of_none e hp)]; exact e
/-- nothing there that one's own object could be -/
def NT (H : Hp) (a : Addr) : Prop := ∀ o, H a = some o → ∃ ps, o = .tbl ps
theorem NT.none {H : Hp} {a : Addr} (h : H a = none) : NT H a := fun o z => by rw [h] at z; cases z
structure Ext (F : Fz) (H : Hp) (F' : Fz) (H' : Hp) : Prop where
  good : Good F' H'
  mono : Same F.P F'.P
  monoT : ∀ a, F.T a → F'.T a
  keep : ∀ a o, H a = some o → ¬ F.T a → (∀ ps, o ≠ .tbl ps) → H' a = some o
  fresh : ∀ a, (F'.P a ≠ none ∨ F'.T a) → F.P a ≠ none ∨ F.T a ∨ NT H a
theorem Ext.back {F F' : Fz} {H H' : Hp} (e : Ext F H F' H') {a : Addr} (h : NT H' a) (n : ¬ F.T a) : NT H a := fun o z => by
  by_cases q : ∃ ps, o = .tbl ps
  · exact q
  · exact absurd (h o (e.keep a o z n fun ps hq => q ⟨ps, hq⟩)) q
theorem Ext.refl {F : Fz} {H : Hp} (g : Good F H) : Ext F H F H := ⟨g, Same.refl _, fun _ h => h, fun _ _ h _ _ => h, fun _ h => h.elim .inl fun z => .inr (.inl z)⟩
theorem Ext.trans {F F1 F2 : Fz} {H H1 H2 : Hp} (a : Ext F H F1 H1) (b : Ext F1 H1 F2 H2) : Ext F H F2 H2 where
  good := b.good
  mono := a.mono.trans b.mono
  monoT := fun c h => b.monoT c (a.monoT c h)
  keep := fun c o h n nt => by
    have h1 := a.keep c o h n nt
    by_cases t : F1.T c
    · rcases a.fresh c (.inr t) with z | z | z
      · cases q : F.P c with
        | none => exact absurd q z
        | some u =>
          have e := a.mono c u q
          rw [(a.good.pot c t).1] at e; cases e
      · exact absurd z n
      · obtain ⟨ps, q⟩ := z o h; exact absurd q (nt ps)
    · exact b.keep c o h1 t nt
  fresh := fun c h => by
    rcases b.fresh c h with z | z | z
    · exact a.fresh c (.inl z)
    · exact a.fresh c (.inr z)
    · by_cases t : F.T c
      · exact .inr (.inl t)
      · exact .inr (.inr (a.back z t))

def sqT_same {K : PySem.W.Frag} {H H' : Hp} {a : Addr} {xs : List V} (e : Same H H') (h : SqT K H a xs) : SqT K H' a xs := by
  rcases h with (h | ⟨o, h⟩) | h
  · exact .inl (.inl (e _ _ h))
  · exact .inl (.inr ⟨o, e _ _ h⟩)
  · exact .inr h

/-- a tuple that stands still: tracked, or of the module -/
def TupAt (K : PySem.W.Frag) (P : Hp) (a : Addr) (xs : List V) : Prop := P a = some (.tup xs) ∨
  ∃ (o : Obj) (its : Array Value) (n : Nat), K.lookup a = some o ∧ o.cls = .type "tuple" ∧ o.data = .seq its n ∧ its.size ≤ sizeLine ∧ Vals xs its.toList
theorem TupAt.sq {K : PySem.W.Frag} {P : Hp} {a : Addr} {xs : List V} (h : TupAt K P a xs) : SqT K P a xs := h.elim (fun h => .inl (.inl h)) .inr
theorem TupAt.same {K : PySem.W.Frag} {P P' : Hp} {a : Addr} {xs : List V} (e : Same P P') (h : TupAt K P a xs) : TupAt K P' a xs := h.elim (fun h => .inl (e _ _ h)) .inr
theorem TupAt.of {K : PySem.W.Frag} {P : Hp} {a : Addr} {xs : List V} (h : P a = some (.tup xs)) : TupAt K P a xs := .inl h
/-- an exception object, its dict (the kit's exo, exd, told here for the sake of a small import) -/
def uX (e C : Addr) (d : Option Addr) : HO := .ext fun h => ∃ t1 : Addr, h.get? e = some ({ cls := .ref C, dict := d, data := .fields #[.ref t1, .none, .none, .none, .bool false, .none] } : Obj)
def uD (dx : Addr) (fs : List (Str × V)) : HO := .ext fun h => ∃ mA, h.Ns1 dx mA ∧ ∀ f, RelO (fs.lookup f) (mA f)
mutual
inductive Rep (K : PySem.W.Frag) (F : Fz) : V → D → Prop where
  | non : Rep K F .non .non
  | bl (b : Bool) : Rep K F (.bl b) (.bl b)
  | int (i : Int) : Rep K F (.int i) (.int i)
  | str (x : Str) : Rep K F (.str x) (.str x)
  | tup {a : Addr} {xs : List V} {ds : List D} : TupAt K F.P a xs → Reps K F xs ds → Rep K F (.ref a) (.tup ds)
  | lst {a : Addr} {xs : List V} {ds : List D} : F.P a = some (.lst xs) → Reps K F xs ds → Rep K F (.ref a) (.lst ds)
  | pot {a : Addr} : F.T a → Rep K F (.ref a) .pot
  | ty (n : String) : Rep K F (.ty n) (.ty n)
  | scr {a : Addr} {ns : List Int} : SqL K F.P a (ns.map V.int) → Rep K F (.ref a) (.scr ns)
  | dct {a : Addr} : F.P a = some (.dK []) → Rep K F (.ref a) .dct
  | fn {a : Addr} {n : Nat} {x : Str} : FNS[n]? = some (a, x) → Rep K F (.ref a) (.fn n)
  | clo {f c : Addr} {n : Nat} {x : CloT} {cs : List Addr} {pm ctv : Value} {vs : List V} {ds : List D} : CLOS[n]? = some x → F.P f = some (uT f (PySem.W.kla_obj "<lambda>" x.q x.params x.body x.scope (x.ns.zip cs) pm c ctv)) →
      x.ns.length = cs.length → cs.Nodup → (∀ p ∈ cs.zip vs, ∃ o u, F.P p.1 = some (uT p.1 o) ∧ o.data = .cell (some u) ∧ L2.RelV p.2 u) → cs.length = vs.length → Reps K F vs ds → Rep K F (.ref f) (.clo n ds)
  | inst {a C dd : Addr} {v : V} {d : D} : F.P a = some (uX a C (some dd)) → F.P dd = some (uD dd [("value", v)]) → Rep K F v d → Rep K F (.ref a) (.inst C [d])
  | inst0 {a C : Addr} : F.P a = some (uX a C none) → Rep K F (.ref a) (.inst C [])
inductive Reps (K : PySem.W.Frag) (F : Fz) : List V → List D → Prop where
  | nil : Reps K F [] []
  | cons {v : V} {d : D} {vs : List V} {ds : List D} : Rep K F v d → Reps K F vs ds → Reps K F (v :: vs) (d :: ds)
end
structure Fz.Le (F F' : Fz) : Prop where
  p : Same F.P F'.P
  t : ∀ a, F.T a → F'.T a
theorem Ext.le {F F' : Fz} {H H' : Hp} (e : Ext F H F' H') : F.Le F' := ⟨e.mono, e.monoT⟩
mutual
theorem Rep.mono {K : PySem.W.Frag} {F F' : Fz} (l : F.Le F') : ∀ {v : V} {d : D}, Rep K F v d → Rep K F' v d
  | _, _, .non => .non
  | _, _, .bl b => .bl b
  | _, _, .int i => .int i
  | _, _, .str x => .str x
  | _, _, .tup h r => .tup (h.same l.p) (Reps.mono l r)
  | _, _, .lst h r => .lst (l.p _ _ h) (Reps.mono l r)
  | _, _, .pot h => .pot (l.t _ h)
  | _, _, .ty n => .ty n
  | _, _, .scr h => .scr (l.p.seq h)
  | _, _, .dct h => .dct (l.p _ _ h)
  | _, _, .fn h => .fn h
  | _, _, .clo hc hf hl hd hv hw r => .clo hc (l.p _ _ hf) hl hd (fun p hp => let ⟨o, u, a, b, c⟩ := hv p hp; ⟨o, u, l.p _ _ a, b, c⟩) hw (Reps.mono l r)
  | _, _, .inst h1 h2 r => .inst (l.p _ _ h1) (l.p _ _ h2) (Rep.mono l r)
  | _, _, .inst0 h1 => .inst0 (l.p _ _ h1)
theorem Reps.mono {K : PySem.W.Frag} {F F' : Fz} (l : F.Le F') : ∀ {vs : List V} {ds : List D}, Reps K F vs ds → Reps K F' vs ds
  | _, _, .nil => .nil
  | _, _, .cons h r => .cons (Rep.mono l h) (Reps.mono l r)
end
section
variable {K : PySem.W.Frag} {F F' : Fz} {H H' : Hp}
theorem Reps.length : ∀ {vs : List V} {ds : List D}, Reps K F vs ds → vs.length = ds.length
  | _, _, .nil => rfl
  | _, _, .cons _ r => by simp [Reps.length r]
theorem Reps.get : ∀ {vs : List V} {ds : List D} {i : Nat} {v : V}, Reps K F vs ds → vs[i]? = some v → ∃ d, ds[i]? = some d ∧ Rep K F v d
  | _, _, _, _, .nil, e => by simp at e
  | _, _, 0, _, .cons h _, e => by simp at e; subst e; exact ⟨_, rfl, h⟩
  | _, _, i + 1, v, .cons _ r, e => by
    obtain ⟨d, h1, h2⟩ := Reps.get (i := i) (v := v) r (by simpa using e)
    exact ⟨d, by simpa using h1, h2⟩
theorem Reps.get' : ∀ {vs : List V} {ds : List D} {i : Nat} {d : D}, Reps K F vs ds → ds[i]? = some d → ∃ v, vs[i]? = some v ∧ Rep K F v d
  | _, _, _, _, .nil, e => by simp at e
  | _, _, 0, _, .cons h _, e => by simp at e; subst e; exact ⟨_, rfl, h⟩
  | _, _, i + 1, v, .cons _ r, e => by
    obtain ⟨d, h1, h2⟩ := Reps.get' (i := i) (d := v) r (by simpa using e)
    exact ⟨d, by simpa using h1, h2⟩
theorem Reps.append : ∀ {vs ws : List V} {ds es : List D}, Reps K F vs ds → Reps K F ws es → Reps K F (vs ++ ws) (ds ++ es)
  | _, _, _, _, .nil, s => s
  | _, _, _, _, .cons h r, s => .cons h (Reps.append r s)
theorem Reps.set {v : V} {d : D} (h : Rep K F v d) : ∀ {vs : List V} {ds : List D} (i : Nat), Reps K F vs ds → Reps K F (vs.set i v) (ds.set i d)
  | _, _, _, .nil => .nil
  | _, _, 0, .cons _ r => .cons h r
  | _, _, i + 1, .cons q r => .cons q (Reps.set h i r)
theorem Reps.take : ∀ {vs : List V} {ds : List D} (n : Nat), Reps K F vs ds → Reps K F (vs.take n) (ds.take n)
  | _, _, 0, _ => .nil
  | _, _, _ + 1, .nil => .nil
  | _, _, n + 1, .cons h r => .cons h (Reps.take n r)
theorem Reps.drop : ∀ {vs : List V} {ds : List D} (n : Nat), Reps K F vs ds → Reps K F (vs.drop n) (ds.drop n)
  | _, _, 0, r => r
  | _, _, _ + 1, .nil => .nil
  | _, _, n + 1, .cons _ r => Reps.drop n r
theorem Reps.eraseIdx : ∀ {vs : List V} {ds : List D} (n : Nat), Reps K F vs ds → Reps K F (vs.eraseIdx n) (ds.eraseIdx n)
  | _, _, _, .nil => .nil
  | _, _, 0, .cons _ r => r
  | _, _, n + 1, .cons h r => .cons h (Reps.eraseIdx n r)
theorem Reps.rep {vs : List V} {ds : List D} (r : Reps K F vs ds) : ∀ n : Nat, Reps K F ((List.replicate n vs).flatten) ((List.replicate n ds).flatten)
  | 0 => .nil
  | n + 1 => by
    rw [List.replicate_succ, List.replicate_succ, List.flatten_cons, List.flatten_cons]
    exact r.append (Reps.rep r n)
theorem Reps.cut {vs ws : List V} {ds : List D} : Reps K F (vs ++ ws) ds → ∃ es fs, ds = es ++ fs ∧ Reps K F vs es ∧ Reps K F ws fs := by
  induction vs generalizing ds with
  | nil => exact fun r => ⟨[], ds, rfl, .nil, r⟩
  | cons v vs ih =>
    intro r
    cases r with
    | cons h r =>
      obtain ⟨es, fs, rfl, r1, r2⟩ := ih r
      exact ⟨_ :: es, fs, rfl, .cons h r1, r2⟩

/-! ### new objects -/
theorem Good.new {p : Addr} {o : HO} (g : Good F H) (hp : H p = none) : Good F (upd H p o) := ⟨fun a u h => by rw [upd_ne (ne_of_none (g.sub a u h) hp)]; exact g.sub a u h, fun a t => by
  obtain ⟨h1, h2⟩ := g.pot a t
  refine ⟨h1, ?_⟩
  obtain ⟨x, y, e, z⟩ := h2
  rw [upd_ne (ne_of_none e hp)]
  exact ⟨x, y, e, z⟩, g.nt, tabs_new g.tab hp, fun f o h q ps b sc cl pm c ctv e => by
    have k := g.cod f o h q ps b sc cl pm c ctv e
    rw [upd_ne (ne_of_none k hp)]; exact k⟩
/-- a new object, not yet still -/
theorem Ext.new {p : Addr} {o : HO} (g : Good F H) (hp : H p = none) : Ext F H F (upd H p o) :=
  ⟨g.new hp, Same.refl _, fun _ h => h, fun a u h _ _ => by rw [upd_ne (ne_of_none h hp)]; exact h, fun _ h => h.elim .inl fun z => .inr (.inl z)⟩
/-- an own object is made still -/
def Fz.add (F : Fz) (p : Addr) (o : HO) : Fz := ⟨upd F.P p o, F.T⟩
theorem Good.add {p : Addr} {o : HO} (g : Good F H) (hp : H p = some o) (n : F.P p = none) (t : ¬ F.T p) (ht : ∀ ps, o ≠ .tbl ps) (hc : ∀ ob, o = uT p ob → CodOk H ob) : Good (F.add p o) H := ⟨fun a u h => by
    by_cases e : a = p
    · subst e; rw [show (F.add a o).P a = some o from upd_same] at h; cases h; exact hp
    · rw [show (F.add p o).P a = F.P a from upd_ne e] at h; exact g.sub a u h,
  fun a ta => by
    have e : a ≠ p := fun e => t (e ▸ ta)
    exact ⟨by rw [show (F.add p o).P a = F.P a from upd_ne e]; exact (g.pot a ta).1, (g.pot a ta).2⟩, fun a ps h => by
    by_cases e : a = p
    · subst e; rw [show (F.add a o).P a = some o from upd_same] at h; cases h; exact ht ps rfl
    · rw [show (F.add p o).P a = F.P a from upd_ne e] at h; exact g.nt a ps h, g.tab, fun f ob h => by
    by_cases e : f = p
    · subst e; rw [show (F.add f o).P f = some o from upd_same] at h; cases h; exact hc ob rfl
    · rw [show (F.add p o).P f = F.P f from upd_ne e] at h; exact g.cod f ob h⟩
theorem Fz.le_add {p : Addr} {o : HO} (n : F.P p = none) : F.Le (F.add p o) := ⟨fun a u h => by
  rw [show (F.add p o).P a = F.P a from upd_ne (ne_of_none h n)]; exact h, fun _ h => h⟩
theorem Good.free {p : Addr} (g : Good F H) (hp : H p = none) : F.P p = none ∧ ¬ F.T p := by
  constructor
  · cases q : F.P p with
    | none => rfl
    | some o => rw [g.sub p o q] at hp; cases hp
  · intro t
    obtain ⟨x, y, e, _⟩ := (g.pot p t).2
    rw [e] at hp; cases hp
theorem Ext.addNew {p : Addr} {o : HO} (g : Good F H) (hp : H p = none) (ht : ∀ ps, o ≠ .tbl ps := by intro _ z; cases z) (hc : ∀ ob, o ≠ uT p ob := by intro _ z; cases z) : Ext F H (F.add p o) (upd H p o) := by
  obtain ⟨n, t⟩ := g.free hp
  refine ⟨(g.new hp).add upd_same n t ht (fun ob z => absurd z (hc ob)), (Fz.le_add n).p, fun _ h => h, (Ext.new g hp).keep, fun a h => ?_⟩
  rcases h with h | h
  · by_cases e : a = p
    · subst e; exact .inr (.inr (.none hp))
    · rw [show (F.add p o).P a = F.P a from upd_ne e] at h; exact .inl h
  · exact .inr (.inl h)
theorem Ext.freeze {F0 : Fz} {H0 : Hp} {p : Addr} {o : HO} (e : Ext F0 H0 F H) (hp : H p = some o) (n : F.P p = none) (t : ¬ F.T p) (h0 : NT H0 p) (ht : ∀ ps, o ≠ .tbl ps := by intro _ z; cases z) (hc : ∀ ob, o ≠ uT p ob := by intro _ z; cases z) : Ext F0 H0 (F.add p o) H := by
  refine ⟨e.good.add hp n t ht (fun ob z => absurd z (hc ob)), e.mono.trans (Fz.le_add n).p, e.monoT, e.keep, fun a h => ?_⟩
  by_cases q : a = p
  · subst q; exact .inr (.inr h0)
  · rcases h with h | h
    · rw [show (F.add p o).P a = F.P a from upd_ne q] at h; exact e.fresh a (.inl h)
    · exact e.fresh a (.inr h)
/-- an own object is changed -/
theorem Ext.write {F0 : Fz} {H0 : Hp} {p : Addr} {o : HO} (e : Ext F0 H0 F H) (n : F.P p = none) (t : ¬ F.T p) (h0 : NT H0 p) (hl : ∃ xs, H p = some (.lst xs)) : Ext F0 H0 F (upd H p o) := by
  obtain ⟨xs, hl⟩ := hl
  refine ⟨⟨fun a u h => ?_, fun a ta => ?_, e.good.nt, tabs_stay e.good.tab fun a u h nl => ?_, fun f ob h q ps b sc cl pm c ctv z => ?_⟩, e.mono, e.monoT, fun a u h nt ntb => ?_, e.fresh⟩
  · rw [upd_ne (ne_of_none h n)]; exact e.good.sub a u h
  · rw [upd_ne (fun z : a = p => t (by rw [← z]; exact ta))]; exact e.good.pot a ta
  · rw [upd_ne (fun z : a = p => by rw [z, hl] at h; cases h; exact nl _ rfl)]; exact h
  · have k := e.good.cod f ob h q ps b sc cl pm c ctv z
    rw [upd_ne (fun z2 : c = p => by rw [z2, hl] at k; exact (codeO_ext (Option.some.inj k)).1 xs rfl)]; exact k
  · rw [upd_ne (fun z : a = p => by obtain ⟨ps, q⟩ := h0 u (z ▸ h); exact ntb ps q)]; exact e.keep a u h nt ntb

/-! ### a value that is looked at: still, or an own list as it stands -/
inductive Pk (K : PySem.W.Frag) (F : Fz) (H : Hp) : V → D → Prop where
  | rep {v : V} {d : D} : Rep K F v d → Pk K F H v d
  | own {a : Addr} {xs : List V} {ds : List D} : H a = some (.lst xs) → ¬ F.T a → F.P a = none → Reps K F xs ds → Pk K F H (.ref a) (.lst ds)
theorem Pk.ext {v : V} {d : D} (e : Ext F H F' H') : Pk K F H v d → Pk K F' H' v d
  | .rep r => .rep (r.mono e.le)
  | .own h t n r => .own (e.keep _ _ h t fun ps z => by cases z) (fun t' => by
      rcases e.fresh _ (.inr t') with z | z | z
      · exact z n
      · exact t z
      · obtain ⟨ps, q⟩ := z _ h; cases q) (by
      cases q : F'.P _ with
      | none => rfl
      | some o =>
        rcases e.fresh _ (.inl (by rw [q]; intro z; cases z)) with z | z | z
        · exact absurd n z
        · exact absurd z t
        · obtain ⟨ps, q⟩ := z _ h; cases q) (r.mono e.le)
theorem Pk.int {v : V} {i : Int} (h : Pk K F H v (.int i)) : v = .int i := by
  cases h with | rep r => cases r; rfl
theorem Pk.bl {v : V} {i : Bool} (h : Pk K F H v (.bl i)) : v = .bl i := by
  cases h with | rep r => cases r; rfl
theorem Pk.str {v : V} {i : Str} (h : Pk K F H v (.str i)) : v = .str i := by
  cases h with | rep r => cases r; rfl
theorem Pk.non {v : V} (h : Pk K F H v .non) : v = .non := by
  cases h with | rep r => cases r; rfl
theorem Pk.lst {v : V} {ds : List D} (h : Pk K F H v (.lst ds)) (g : Good F H) : ∃ a xs, v = .ref a ∧ H a = some (.lst xs) ∧ Reps K F xs ds := by
  cases h with
  | rep r =>
    cases r with
    | lst h r => exact ⟨_, _, rfl, g.sub _ _ h, r⟩
  | own h t n r => exact ⟨_, _, rfl, h, r⟩
theorem Pk.ty {v : V} {i : String} (h : Pk K F H v (.ty i)) : v = .ty i := by
  cases h with | rep r => cases r; rfl
theorem Pk.scr {v : V} {ns : List Int} (h : Pk K F H v (.scr ns)) (g : Good F H) : ∃ a, v = .ref a ∧ SqL K H a (ns.map V.int) := by
  cases h with
  | rep r =>
    cases r with
    | scr h => exact ⟨_, rfl, g.sub.seq h⟩
theorem Pk.tup {v : V} {ds : List D} (h : Pk K F H v (.tup ds)) (g : Good F H) : ∃ a xs, v = .ref a ∧ SqT K H a xs ∧ Reps K F xs ds := by
  cases h with
  | rep r =>
    cases r with
    | tup h r => exact ⟨_, _, rfl, sqT_same g.sub h.sq, r⟩
end

/-! ### the slots -/
structure Slot where
  own : Bool
  d : D
abbrev En := List (Option Slot)
/-- B: where own lists may stand -/
structure RelE (K : PySem.W.Frag) (B : Addr → Prop) (F : Fz) (H : Hp) (σ : L2.St) (E : En) : Prop where
  len : σ.length = E.length
  val : ∀ (i : Nat) (d : D), E[i]? = some (some ⟨false, d⟩) → ∃ v, σ[i]? = some (some v) ∧ Rep K F v d
  own : ∀ (i : Nat) (d : D), E[i]? = some (some ⟨true, d⟩) → ∃ a xs ds, σ[i]? = some (some (.ref a)) ∧ d = .lst ds ∧ H a = some (.lst xs) ∧ Reps K F xs ds ∧ F.P a = none ∧ ¬ F.T a ∧ B a
  dist : ∀ (i j : Nat) (d e : D) (a : Addr), i ≠ j → E[i]? = some (some ⟨true, d⟩) → E[j]? = some (some ⟨true, e⟩) → σ[i]? = some (some (.ref a)) → σ[j]? ≠ some (some (.ref a))
section
variable {K : PySem.W.Frag} {B : Addr → Prop} {F F' : Fz} {H H' : Hp} {σ : L2.St} {E : En}
theorem own_ext {a : Addr} {o : List V} (e : Ext F H F' H') (h : H a = some (.lst o)) (n : F.P a = none) (t : ¬ F.T a) : H' a = some (.lst o) ∧ F'.P a = none ∧ ¬ F'.T a := by
  refine ⟨e.keep _ _ h t (fun ps z => by cases z), ?_, fun t' => ?_⟩
  · cases q : F'.P a with
    | none => rfl
    | some o =>
      rcases e.fresh _ (.inl (by rw [q]; intro z; cases z)) with z | z | z
      · exact absurd n z
      · exact absurd z t
      · obtain ⟨ps, q⟩ := z _ h; cases q
  · rcases e.fresh _ (.inr t') with z | z | z
    · exact z n
    · exact t z
    · obtain ⟨ps, q⟩ := z _ h; cases q
theorem RelE.ext (r : RelE K B F H σ E) (e : Ext F H F' H') : RelE K B F' H' σ E where
  len := r.len
  val := fun i d h => by
    obtain ⟨v, h1, h2⟩ := r.val i d h
    exact ⟨v, h1, h2.mono e.le⟩
  own := fun i d h => by
    obtain ⟨a, xs, ds, h1, h2, h3, h4, h5, h6, h7⟩ := r.own i d h
    obtain ⟨g1, g2, g3⟩ := own_ext e h3 h5 h6
    exact ⟨a, xs, ds, h1, h2, g1, h4.mono e.le, g2, g3, h7⟩
  dist := r.dist
/-- a still value is stored -/
theorem RelE.put {v : V} {d : D} (r : RelE K B F H σ E) (i : Nat) (h : Rep K F v d) : RelE K B F H (σ.set i (some v)) (E.set i (some ⟨false, d⟩)) where
  len := by simp [r.len]
  val := fun j x hx => by
    by_cases hj : i = j
    · subst hj
      by_cases hl : i < E.length
      · rw [List.getElem?_set_self hl] at hx; cases hx
        exact ⟨v, List.getElem?_set_self (by rw [r.len]; exact hl), h⟩
      · rw [List.getElem?_eq_none (by simpa using hl)] at hx; cases hx
    · rw [List.getElem?_set_ne hj] at hx ⊢; exact r.val j x hx
  own := fun j x hx => by
    by_cases hj : i = j
    · subst hj
      by_cases hl : i < E.length
      · rw [List.getElem?_set_self hl] at hx; cases hx
      · rw [List.getElem?_eq_none (by simpa using hl)] at hx; cases hx
    · rw [List.getElem?_set_ne hj] at hx ⊢; exact r.own j x hx
  dist := fun j k x y a hjk hx hy ha hb => by
    have nj : i ≠ j := fun e => by
      subst e
      by_cases hl : i < E.length
      · rw [List.getElem?_set_self hl] at hx; cases hx
      · rw [List.getElem?_eq_none (by simpa using hl)] at hx; cases hx
    have nk : i ≠ k := fun e => by
      subst e
      by_cases hl : i < E.length
      · rw [List.getElem?_set_self hl] at hy; cases hy
      · rw [List.getElem?_eq_none (by simpa using hl)] at hy; cases hy
    rw [List.getElem?_set_ne nj] at hx ha
    rw [List.getElem?_set_ne nk] at hy hb
    exact r.dist j k x y a hjk hx hy ha hb
/-- a slot is forgotten -/
theorem RelE.drop (r : RelE K B F H σ E) (i : Nat) (o : Option V) : RelE K B F H (σ.set i o) (E.set i none) where
  len := by simp [r.len]
  val := fun j x hx => by
    by_cases hj : i = j
    · subst hj
      by_cases hl : i < E.length
      · rw [List.getElem?_set_self hl] at hx; cases hx
      · rw [List.getElem?_eq_none (by simpa using hl)] at hx; cases hx
    · rw [List.getElem?_set_ne hj] at hx ⊢; exact r.val j x hx
  own := fun j x hx => by
    by_cases hj : i = j
    · subst hj
      by_cases hl : i < E.length
      · rw [List.getElem?_set_self hl] at hx; cases hx
      · rw [List.getElem?_eq_none (by simpa using hl)] at hx; cases hx
    · rw [List.getElem?_set_ne hj] at hx ⊢; exact r.own j x hx
  dist := fun j k x y a hjk hx hy ha hb => by
    have nj : i ≠ j := fun e => by
      subst e
      by_cases hl : i < E.length
      · rw [List.getElem?_set_self hl] at hx; cases hx
      · rw [List.getElem?_eq_none (by simpa using hl)] at hx; cases hx
    have nk : i ≠ k := fun e => by
      subst e
      by_cases hl : i < E.length
      · rw [List.getElem?_set_self hl] at hy; cases hy
      · rw [List.getElem?_eq_none (by simpa using hl)] at hy; cases hy
    rw [List.getElem?_set_ne nj] at hx ha
    rw [List.getElem?_set_ne nk] at hy hb
    exact r.dist j k x y a hjk hx hy ha hb
end
end R

set_option Elab.async false
set_option linter.all false
set_option maxRecDepth 100000
namespace R
open PySem PySem.Spec PyProof.Rows L2
open Tree (leaf fail)

/-! ### judgements -/
def tE (K : PySem.W.Frag) (m : En → Tree D) : TE := fun σ H Q => ∃ B F E, Good F H ∧ RelE K B F H σ E ∧ (m E).all fun d => ∀ v F' H', Ext F H F' H' → Rep K F' v d → Q v H'
def tP (K : PySem.W.Frag) (m : En → Tree D) : TE := fun σ H Q => ∃ B F E, Good F H ∧ RelE K B F H σ E ∧ (m E).all fun d => ∀ v F' H', Ext F H F' H' → Pk K F' H' v d → Q v H'
/-- a new list of one's own -/
def tL (K : PySem.W.Frag) (m : En → Tree (List D)) : TE := fun σ H Q => ∃ B F E, Good F H ∧ RelE K B F H σ E ∧ (m E).all fun ds => ∀ a xs F' H', Ext F H F' H' → H' a = some (.lst xs) → F'.P a = none → ¬ F'.T a → NT H a → Reps K F' xs ds → Q (.ref a) H'
def tT (K : PySem.W.Frag) (m : En → Tree Bool) : TT := fun σ H Q => ∃ B F E, Good F H ∧ RelE K B F H σ E ∧ (m E).all fun b => ∀ F' H', Ext F H F' H' → Q b H'
def tA (K : PySem.W.Frag) (m : En → Tree (List D)) : TA := fun σ H Q => ∃ B F E, Good F H ∧ RelE K B F H σ E ∧ (m E).all fun ds => ∀ vs F' H', Ext F H F' H' → Reps K F' vs ds → Q vs H'
abbrev Pks (K : PySem.W.Frag) (F : Fz) (H : Hp) : List V → List D → Prop := Paired (Pk K F H)
def tPA (K : PySem.W.Frag) (m : En → Tree (List D)) : TA := fun σ H Q => ∃ B F E, Good F H ∧ RelE K B F H σ E ∧ (m E).all fun ds => ∀ vs F' H', Ext F H F' H' → Pks K F' H' vs ds → Q vs H'
structure SE (X : Cx) (e : Expr) (m : En → Tree D) : Prop where
  pe : PE X e (tE X.K m)
structure SP (X : Cx) (e : Expr) (m : En → Tree D) : Prop where
  pe : PE X e (tP X.K m)
structure SL (X : Cx) (e : Expr) (m : En → Tree (List D)) : Prop where
  pe : PE X e (tL X.K m)
structure ST (X : Cx) (e : Expr) (m : En → Tree Bool) : Prop where
  pt : PT X e (tT X.K m)
structure SW (X : Cx) (e : Expr) (m : En → Tree Bool) : Prop where
  pw : PW X e (tT X.K m)
structure SA (X : Cx) (es : List Expr) (m : En → Tree (List D)) : Prop where
  pa : PA X es (tA X.K m)
structure SPA (X : Cx) (es : List Expr) (m : En → Tree (List D)) : Prop where
  pa : PA X es (tPA X.K m)

section
variable {X : Cx}
theorem PE.weak {e : Expr} {t t' : TE} (h : PE X e t) (w : ∀ σ H Q, t' σ H Q → t σ H Q) : PE X e t' := ⟨fun pins s σ H Q I q => h.run pins s σ H Q I (w σ H Q q)⟩
theorem PT.weak {e : Expr} {t t' : TT} (h : PT X e t) (w : ∀ σ H Q, t' σ H Q → t σ H Q) : PT X e t' := ⟨fun pins s σ H Q I q => h.run pins s σ H Q I (w σ H Q q)⟩
theorem PW.weak {e : Expr} {t t' : TT} (h : PW X e t) (w : ∀ σ H Q, t' σ H Q → t σ H Q) : PW X e t' := ⟨fun wh pins s σ H Q I q => h.run wh pins s σ H Q I (w σ H Q q)⟩
theorem PA.weak {es : List Expr} {t t' : TA} (h : PA X es t) (w : ∀ σ H Q, t' σ H Q → t σ H Q) : PA X es t' := ⟨fun pos pins s σ H Q I q => h.run pos pins s σ H Q I (w σ H Q q)⟩
theorem PS.weak {st : Stmt} {t t' : TS} (h : PS X st t) (w : ∀ D σ H, t' D σ H → t D σ H) : PS X st t' := ⟨fun pins s σ H D I q => h.run pins s σ H D I (w D σ H q)⟩
theorem PSs.weak {st : List Stmt} {t t' : TS} (h : PSs X st t) (w : ∀ D σ H, t' D σ H → t D σ H) : PSs X st t' := ⟨fun pins s σ H D I q => h.run pins s σ H D I (w D σ H q)⟩

theorem SE.sp {e : Expr} {m : En → Tree D} (h : SE X e m) : SP X e m := ⟨PE.weak h.pe fun σ H Q ⟨B, F, E, g, r, q⟩ => ⟨B, F, E, g, r, Tree.all_mono (fun d k v F' H' e rp => k v F' H' e (.rep rp)) q⟩⟩
def mList (m : En → Tree (List D)) : En → Tree D := fun E => (m E).bind fun ds => leaf (.lst ds)
theorem SL.se {e : Expr} {m : En → Tree (List D)} (h : SL X e m) : SE X e (mList m) := ⟨PE.weak h.pe fun σ H Q ⟨B, F, E, g, r, q⟩ => ⟨B, F, E, g, r, Tree.all_mono (fun ds k a xs F' H' e h' n t h0 rp =>
  k (.ref a) (F'.add a (.lst xs)) H' (e.freeze h' n t h0) (.lst upd_same (rp.mono (Fz.le_add n)))) (Tree.all_bind.mp q)⟩⟩

/-! ### constants, names -/
theorem se_of {e : Expr} {v : V} {d : D} (h : PE X e (tC v)) (r : ∀ F, Rep X.K F v d) : SE X e (fun _ => leaf d) := ⟨PE.weak h fun σ H Q ⟨B, F, E, g, rl, q⟩ => q v F H (Ext.refl g) (r F)⟩
theorem se_int {i : Int} {j pos} : SE X (.Constant (.int i) j pos) (fun _ => leaf (.int i)) := se_of pe_int fun _ => .int i
theorem se_bl {b : Bool} {j pos} : SE X (.Constant (.bool b) j pos) (fun _ => leaf (.bl b)) := se_of pe_bl fun _ => .bl b
theorem se_non {j pos} : SE X (.Constant .none j pos) (fun _ => leaf .non) := se_of pe_non fun _ => .non
theorem se_str {x : Str} {j pos} : SE X (.Constant (.str x) j pos) (fun _ => leaf (.str x)) := se_of pe_str fun _ => .str x
def mVar (i : Nat) : En → Tree D := fun E => match E[i]? with
  | some (some ⟨false, d⟩) => leaf d
  | _ => fail
def mPeek (i : Nat) : En → Tree D := fun E => match E[i]? with
  | some (some ⟨_, d⟩) => leaf d
  | _ => fail
theorem se_var {i : Nat} {x : Str} {pos : Pos} (h : PE X (.Name x pos) (tVar i)) : SE X (.Name x pos) (mVar i) := ⟨PE.weak h fun σ H Q ⟨B, F, E, g, rl, q⟩ => by
  unfold mVar at q
  split at q
  · rename_i d e
    obtain ⟨v, h1, h2⟩ := rl.val i d e
    exact ⟨v, h1, q v F H (Ext.refl g) h2⟩
  · exact q.elim⟩
theorem sp_var {i : Nat} {x : Str} {pos : Pos} (h : PE X (.Name x pos) (tVar i)) : SP X (.Name x pos) (mPeek i) := ⟨PE.weak h fun σ H Q ⟨B, F, E, g, rl, q⟩ => by
  unfold mPeek at q
  split at q
  · rename_i o d e
    cases o with
    | false =>
      obtain ⟨v, h1, h2⟩ := rl.val i d e
      exact ⟨v, h1, q v F H (Ext.refl g) (.rep h2)⟩
    | true =>
      obtain ⟨a, xs, ds, h1, rfl, h3, h4, h5, h6, _⟩ := rl.own i d e
      exact ⟨.ref a, h1, q (.ref a) F H (Ext.refl g) (.own h3 h6 h5 h4)⟩
  · exact q.elim⟩

/-! ### two parts in a row -/
def m2 (f : D → D → Tree D) (ma mb : En → Tree D) : En → Tree D := fun E => (ma E).bind fun d => (mb E).bind fun e => f d e
def m1 (f : D → Tree D) (ma : En → Tree D) : En → Tree D := fun E => (ma E).bind fun d => f d
/-- what a two-place operation on values asks, by data -/
def Op2 (K : PySem.W.Frag) (r : R2) (f : D → D → Tree D) : Prop := ∀ F H v u d e Q, Good F H → Pk K F H v d → Pk K F H u e → ((f d e).all fun z => ∀ w F' H', Ext F H F' H' → Rep K F' w z → Q w H') → r v u H Q
/-- .. whose answer is a bool, where nothing changes -/
def Cmp2 (K : PySem.W.Frag) (r : R2) (f : D → D → Tree Bool) : Prop := ∀ F H v u d e Q, Good F H → Pk K F H v d → Pk K F H u e → ((f d e).all fun b => Q (.bl b) H) → r v u H Q
theorem two {K : PySem.W.Frag} {ma mb : En → Tree D} {f : D → D → Tree D} {r : R2} (hf : Op2 K r f) {σ : L2.St} {H : Hp} {Q : VK} (h : tE K (m2 f ma mb) σ H Q) : tOp r (tP K ma) (tP K mb) σ H Q := by
  obtain ⟨B, F, E, g, rl, q⟩ := h
  refine ⟨B, F, E, g, rl, Tree.all_mono (fun d k v F1 H1 e1 p1 => ?_) (Tree.all_bind.mp q)⟩
  refine ⟨B, F1, E, e1.good, rl.ext e1, Tree.all_mono (fun e k u F2 H2 e2 p2 => ?_) (Tree.all_bind.mp k)⟩
  exact hf F2 H2 v u d e Q e2.good (p1.ext e2) p2 (Tree.all_mono (fun z kz w F3 H3 e3 rz => kz w F3 H3 ((e1.trans e2).trans e3) rz) k)
variable {a b c : Expr} {ma mb mc : En → Tree D} {pos : Pos}
theorem se_op {op : Operator} {r : R2} {f : D → D → Tree D} (ho : OpR X (binaryOp op) r) (hf : Op2 X.K r f) (ha : SP X a ma) (hb : SP X b mb) : SE X (.BinOp a op b pos) (m2 f ma mb) := ⟨PE.weak (pe_op ho ha.pe hb.pe) fun _ _ _ h => two hf h⟩
theorem se_ix {r : R2} {f : D → D → Tree D} (ho : IxR X r) (hf : Op2 X.K r f) (ha : SP X a ma) (hb : SP X b mb) (hs : PlainIx b) : SE X (.Subscript a b pos) (m2 f ma mb) := ⟨PE.weak (pe_ix ho ha.pe hb.pe hs) fun _ _ _ h => two hf h⟩
def mB (m : En → Tree Bool) : En → Tree D := fun E => (m E).bind fun b => leaf (.bl b)
def mC (f : D → D → Tree Bool) (ma mb : En → Tree D) : En → Tree Bool := fun E => (ma E).bind fun d => (mb E).bind fun e => f d e
theorem se_cmp {op : CmpOp} {r : R2} {f : D → D → Tree Bool} (ho : OpR X (compareOp op) r) (hf : Cmp2 X.K r f) (ha : SP X a ma) (hb : SP X b mb) (hm : behindInMarks op b = false) : SE X (.Compare a [op] [b] pos) (mB (mC f ma mb)) := by
  refine ⟨PE.weak (pe_cmpR ho ha.pe hb.pe hm) fun σ H Q ⟨B, F, E, g, rl, q⟩ => ?_⟩
  refine ⟨B, F, E, g, rl, Tree.all_mono (fun d k v F1 H1 e1 p1 => ?_) (Tree.all_bind.mp (Tree.all_bind.mp q))⟩
  refine ⟨B, F1, E, e1.good, rl.ext e1, Tree.all_mono (fun e k u F2 H2 e2 p2 => ?_) (Tree.all_bind.mp k)⟩
  exact hf F2 H2 v u d e Q e2.good (p1.ext e2) p2 (Tree.all_mono (fun z kz => kz (.bl z) F2 H2 (e1.trans e2) (.bl z)) k)
theorem st_cmp {op : CmpOp} {r : R2} {f : D → D → Tree Bool} (ho : OpR X (compareOp op) r) (hf : Cmp2 X.K r f) (ha : SP X a ma) (hb : SP X b mb) (hm : behindInMarks op b = false) : ST X (.Compare a [op] [b] pos) (mC f ma mb) := by
  refine ⟨PT.weak (pt_cmpR ho ha.pe hb.pe hm) fun σ H Q ⟨B, F, E, g, rl, q⟩ => ?_⟩
  refine ⟨B, F, E, g, rl, Tree.all_mono (fun d k v F1 H1 e1 p1 => ?_) (Tree.all_bind.mp q)⟩
  refine ⟨B, F1, E, e1.good, rl.ext e1, Tree.all_mono (fun e k u F2 H2 e2 p2 => ?_) (Tree.all_bind.mp k)⟩
  exact hf F2 H2 v u d e _ e2.good (p1.ext e2) p2 (Tree.all_mono (fun z kz => ⟨z, rfl, kz F2 H2 (e1.trans e2)⟩) k)
/-- a < b < c -/
def mCh (f g : D → D → Tree Bool) (ma mb mc : En → Tree D) : En → Tree Bool := fun E => (ma E).bind fun d => (mb E).bind fun e => (f d e).bind fun x => if x = true then (mc E).bind fun z => g e z else leaf false
theorem chain {K : PySem.W.Frag} {r r' : R2} {f f' : D → D → Tree Bool} (hf : Cmp2 K r f) (hf' : Cmp2 K r' f') {σ : L2.St} {H : Hp} {Q : VK} {B : Addr → Prop} {F : Fz} {E : En} (g : Good F H) (rl : RelE K B F H σ E)
    (q : (mCh f f' ma mb mc E).all fun z => ∀ F' H', Ext F H F' H' → Q (.bl z) H') : tChain r r' (tP K ma) (tP K mb) (tP K mc) σ H Q := by
  refine ⟨B, F, E, g, rl, Tree.all_mono (fun d k v F1 H1 e1 p1 => ?_) (Tree.all_bind.mp q)⟩
  refine ⟨B, F1, E, e1.good, rl.ext e1, Tree.all_mono (fun e k u F2 H2 e2 p2 => ?_) (Tree.all_bind.mp k)⟩
  refine hf F2 H2 v u d e _ e2.good (p1.ext e2) p2 (Tree.all_mono (fun z kz => ⟨z, rfl, ?_⟩) (Tree.all_bind.mp k))
  cases z with
  | false =>
    rw [if_neg Bool.false_ne_true] at kz ⊢
    exact kz F2 H2 (e1.trans e2)
  | true =>
    rw [if_pos rfl] at kz ⊢
    refine ⟨B, F2, E, e2.good, (rl.ext e1).ext e2, Tree.all_mono (fun z k w F3 H3 e3 p3 => ?_) (Tree.all_bind.mp kz)⟩
    exact hf' F3 H3 u w e z _ e3.good (p2.ext e3) p3 (Tree.all_mono (fun y ky => ky F3 H3 ((e1.trans e2).trans e3)) k)
theorem se_chain {op op' : CmpOp} {r r' : R2} {f f' : D → D → Tree Bool} (ho : OpR X (compareOp op) r) (ho' : OpR X (compareOp op') r') (hf : Cmp2 X.K r f) (hf' : Cmp2 X.K r' f') (ha : SP X a ma) (hb : SP X b mb) (hc : SP X c mc)
    (hm : lastMarks [op, op'] [b, c] = false := by rfl) : SE X (.Compare a [op, op'] [b, c] pos) (mB (mCh f f' ma mb mc)) :=
  ⟨PE.weak (pe_chain ho ho' ha.pe hb.pe hc.pe hm) fun σ H Q ⟨B, F, E, g, rl, q⟩ => chain hf hf' g rl (Tree.all_mono (fun z k F' H' e => k (.bl z) F' H' e (.bl z)) (Tree.all_bind.mp q))⟩
theorem st_chain {op op' : CmpOp} {r r' : R2} {f f' : D → D → Tree Bool} (ho : OpR X (compareOp op) r) (ho' : OpR X (compareOp op') r') (hf : Cmp2 X.K r f) (hf' : Cmp2 X.K r' f') (ha : SP X a ma) (hb : SP X b mb) (hc : SP X c mc)
    (hm : lastMarks [op, op'] [b, c] = false := by rfl) : ST X (.Compare a [op, op'] [b, c] pos) (mCh f f' ma mb mc) :=
  ⟨PT.weak (pt_chain ho ho' ha.pe hb.pe hc.pe hm) fun σ H Q ⟨B, F, E, g, rl, q⟩ => chain hf hf' g rl (Tree.all_mono (fun z k F' H' e => ⟨z, rfl, k F' H' e⟩) q)⟩

/-! ### truth -/
def asB : D → Tree Bool
  | .bl b => leaf b
  | _ => fail
def mT (m : En → Tree D) : En → Tree Bool := fun E => (m E).bind asB
/-- an expression whose value is a bool, as a test -/
theorem st_val {e : Expr} {m : En → Tree D} (h : SP X e m) (he : ∀ whole, isTrue e X.env whole = (do let v ← whole; standAt e.pos; holding [v] (truthy v)) := by intro _; rfl) : ST X e (mT m) := by
  refine ⟨PT.weak (pt_val h.pe he) fun σ H Q ⟨B, F, E, g, rl, q⟩ => ?_⟩
  refine ⟨B, F, E, g, rl, Tree.all_mono (fun d k v F1 H1 e1 p1 => ?_) (Tree.all_bind.mp q)⟩
  cases d with
  | bl b => exact ⟨b, p1.bl, k F1 H1 e1⟩
  | _ => exact False.elim k
def mNot (m : En → Tree Bool) : En → Tree Bool := fun E => (m E).bind fun b => leaf (!b)
def mAnd (m n : En → Tree Bool) : En → Tree Bool := fun E => (m E).bind fun b => if b = true then n E else leaf false
def mOr (m n : En → Tree Bool) : En → Tree Bool := fun E => (m E).bind fun b => if b = true then leaf true else n E
theorem SW.st {e : Expr} {m : En → Tree Bool} (h : SW X e m) : ST X e m := ⟨h.pw.pt⟩
variable {rest : List Expr} {ta tb : En → Tree Bool}
theorem sw_and1 (ha : ST X a ta) : SW X (.BoolOp .And [a] pos) ta := ⟨pw_and1 ha.pt⟩
theorem sw_or1 (ha : ST X a ta) : SW X (.BoolOp .Or [a] pos) ta := ⟨pw_or1 ha.pt⟩
theorem sw_and (ha : ST X a ta) (hb : SW X (.BoolOp .And (b :: rest) pos) tb) : SW X (.BoolOp .And (a :: b :: rest) pos) (mAnd ta tb) := by
  refine ⟨PW.weak (pw_and ha.pt hb.pw) fun σ H Q ⟨B, F, E, g, rl, q⟩ => ?_⟩
  refine ⟨B, F, E, g, rl, Tree.all_mono (fun z k F1 H1 e1 => ?_) (Tree.all_bind.mp q)⟩
  cases z with
  | false => exact k F1 H1 e1
  | true => exact ⟨B, F1, E, e1.good, rl.ext e1, Tree.all_mono (fun y ky F2 H2 e2 => ky F2 H2 (e1.trans e2)) k⟩
theorem sw_or (ha : ST X a ta) (hb : SW X (.BoolOp .Or (b :: rest) pos) tb) : SW X (.BoolOp .Or (a :: b :: rest) pos) (mOr ta tb) := by
  refine ⟨PW.weak (pw_or ha.pt hb.pw) fun σ H Q ⟨B, F, E, g, rl, q⟩ => ?_⟩
  refine ⟨B, F, E, g, rl, Tree.all_mono (fun z k F1 H1 e1 => ?_) (Tree.all_bind.mp q)⟩
  cases z with
  | true => exact k F1 H1 e1
  | false => exact ⟨B, F1, E, e1.good, rl.ext e1, Tree.all_mono (fun y ky F2 H2 e2 => ky F2 H2 (e1.trans e2)) k⟩
theorem st_not (ha : ST X a ta) : ST X (.UnaryOp .Not a pos) (mNot ta) := by
  refine ⟨PT.weak (pt_not ha.pt) fun σ H Q ⟨B, F, E, g, rl, q⟩ => ?_⟩
  exact ⟨B, F, E, g, rl, Tree.all_mono (fun z k F1 H1 e1 => k F1 H1 e1) (Tree.all_bind.mp q)⟩
/-- .. as values: all but the last are bools -/
def mAndV (m n : En → Tree D) : En → Tree D := fun E => (m E).bind fun d => (asB d).bind fun b => if b = true then n E else leaf (.bl false)
def mOrV (m n : En → Tree D) : En → Tree D := fun E => (m E).bind fun d => (asB d).bind fun b => if b = true then leaf (.bl true) else n E
theorem se_one {op} (h : SE X a ma) : SE X (.BoolOp op [a] pos) ma := ⟨pe_one h.pe⟩
theorem se_and (ha : SE X a ma) (hb : SE X (.BoolOp .And (b :: rest) pos) mb) : SE X (.BoolOp .And (a :: b :: rest) pos) (mAndV ma mb) := by
  refine ⟨PE.weak (pe_and ha.pe hb.pe) fun σ H Q ⟨B, F, E, g, rl, q⟩ => ?_⟩
  refine ⟨B, F, E, g, rl, Tree.all_mono (fun d k v F1 H1 e1 p1 => ?_) (Tree.all_bind.mp q)⟩
  cases d with
  | bl z =>
    cases p1
    refine ⟨z, rfl, ?_⟩
    cases z with
    | false => exact k (.bl false) F1 H1 e1 (.bl false)
    | true => exact ⟨B, F1, E, e1.good, rl.ext e1, Tree.all_mono (fun y ky w F2 H2 e2 => ky w F2 H2 (e1.trans e2)) k⟩
  | _ => exact False.elim k
theorem se_or (ha : SE X a ma) (hb : SE X (.BoolOp .Or (b :: rest) pos) mb) : SE X (.BoolOp .Or (a :: b :: rest) pos) (mOrV ma mb) := by
  refine ⟨PE.weak (pe_or ha.pe hb.pe) fun σ H Q ⟨B, F, E, g, rl, q⟩ => ?_⟩
  refine ⟨B, F, E, g, rl, Tree.all_mono (fun d k v F1 H1 e1 p1 => ?_) (Tree.all_bind.mp q)⟩
  cases d with
  | bl z =>
    cases p1
    refine ⟨z, rfl, ?_⟩
    cases z with
    | true => exact k (.bl true) F1 H1 e1 (.bl true)
    | false => exact ⟨B, F1, E, e1.good, rl.ext e1, Tree.all_mono (fun y ky w F2 H2 e2 => ky w F2 H2 (e1.trans e2)) k⟩
  | _ => exact False.elim k
def mNotV (m : En → Tree D) : En → Tree D := fun E => (m E).bind fun d => (asB d).bind fun b => leaf (.bl !b)
theorem se_not (ha : SE X a ma) : SE X (.UnaryOp .Not a pos) (mNotV ma) := by
  refine ⟨PE.weak (pe_not ha.pe) fun σ H Q ⟨B, F, E, g, rl, q⟩ => ?_⟩
  refine ⟨B, F, E, g, rl, Tree.all_mono (fun d k v F1 H1 e1 p1 => ?_) (Tree.all_bind.mp q)⟩
  cases d with
  | bl z =>
    cases p1
    exact ⟨z, rfl, k (.bl !z) F1 H1 e1 (.bl !z)⟩
  | _ => exact False.elim k
def mIf (t : En → Tree Bool) (m n : En → Tree D) : En → Tree D := fun E => (t E).bind fun b => if b = true then m E else n E
theorem se_if (hc : ST X c ta) (ha : SE X a ma) (hb : SE X b mb) : SE X (.IfExp c a b pos) (mIf ta ma mb) := by
  refine ⟨PE.weak (pe_ifExp hc.pt ha.pe hb.pe) fun σ H Q ⟨B, F, E, g, rl, q⟩ => ?_⟩
  refine ⟨B, F, E, g, rl, Tree.all_mono (fun z k F1 H1 e1 => ?_) (Tree.all_bind.mp q)⟩
  cases z with
  | true => exact ⟨B, F1, E, e1.good, rl.ext e1, Tree.all_mono (fun y ky w F2 H2 e2 => ky w F2 H2 (e1.trans e2)) k⟩
  | false => exact ⟨B, F1, E, e1.good, rl.ext e1, Tree.all_mono (fun y ky w F2 H2 e2 => ky w F2 H2 (e1.trans e2)) k⟩

/-! ### argument lists -/
def aNil : En → Tree (List D) := fun _ => leaf []
def aCons (m : En → Tree D) (n : En → Tree (List D)) : En → Tree (List D) := fun E => (m E).bind fun d => (n E).bind fun ds => leaf (d :: ds)
variable {es : List Expr} {mr : En → Tree (List D)}
theorem sa_nil : SA X [] aNil := ⟨PA.weak pa_nil fun σ H Q ⟨B, F, E, g, rl, q⟩ => q [] F H (Ext.refl g) .nil⟩
theorem spa_nil : SPA X [] aNil := ⟨PA.weak pa_nil fun σ H Q ⟨B, F, E, g, rl, q⟩ => q [] F H (Ext.refl g) .nil⟩
theorem sa_cons (ha : SE X a ma) (hr : SA X es mr) (hs : starEach (a :: es) X.env = (false, eval a X.env) :: starEach es X.env := by rfl) : SA X (a :: es) (aCons ma mr) := by
  refine ⟨PA.weak (pa_cons ha.pe hr.pa hs) fun σ H Q ⟨B, F, E, g, rl, q⟩ => ?_⟩
  refine ⟨B, F, E, g, rl, Tree.all_mono (fun d k v F1 H1 e1 p1 => ?_) (Tree.all_bind.mp q)⟩
  refine ⟨B, F1, E, e1.good, rl.ext e1, Tree.all_mono (fun ds k vs F2 H2 e2 p2 => ?_) (Tree.all_bind.mp k)⟩
  exact k (v :: vs) F2 H2 (e1.trans e2) (.cons (p1.mono e2.le) p2)
theorem spa_cons (ha : SP X a ma) (hr : SPA X es mr) (hs : starEach (a :: es) X.env = (false, eval a X.env) :: starEach es X.env := by rfl) : SPA X (a :: es) (aCons ma mr) := by
  refine ⟨PA.weak (pa_cons ha.pe hr.pa hs) fun σ H Q ⟨B, F, E, g, rl, q⟩ => ?_⟩
  refine ⟨B, F, E, g, rl, Tree.all_mono (fun d k v F1 H1 e1 p1 => ?_) (Tree.all_bind.mp q)⟩
  refine ⟨B, F1, E, e1.good, rl.ext e1, Tree.all_mono (fun ds k vs F2 H2 e2 p2 => ?_) (Tree.all_bind.mp k)⟩
  exact k (v :: vs) F2 H2 (e1.trans e2) (.cons (p1.ext e2) p2)

/-! ### displays -/
def lineOk {α : Type} (n : Nat) (t : Tree α) : Tree α := if n ≤ sizeLine then t else fail
theorem lineOk_all {α : Type} {n : Nat} {t : Tree α} {P : α → Prop} (h : (lineOk n t).all P) : n ≤ sizeLine ∧ t.all P := by
  unfold lineOk at h
  split at h
  · exact ⟨by assumption, h⟩
  · exact h.elim
def mTup (m : En → Tree (List D)) : En → Tree D := fun E => (m E).bind fun ds => lineOk ds.length (leaf (.tup ds))
theorem se_tup {x1} (h : SA X es mr) : SE X (.Tuple es x1 pos) (mTup mr) := by
  refine ⟨PE.weak (pe_tup h.pa) fun σ H Q ⟨B, F, E, g, rl, q⟩ => ?_⟩
  refine ⟨B, F, E, g, rl, Tree.all_mono (fun ds k vs F1 H1 e1 p1 => ?_) (Tree.all_bind.mp q)⟩
  obtain ⟨hl, k⟩ := lineOk_all k
  refine ⟨by rw [p1.length]; exact hl, fun p hp => k (.ref p) (F1.add p (.tup vs)) _ (e1.trans (Ext.addNew e1.good hp)) (.tup (.of upd_same) (p1.mono (Fz.le_add (e1.good.free hp).1)))⟩
def mLst (m : En → Tree (List D)) : En → Tree (List D) := fun E => (m E).bind fun ds => lineOk ds.length (leaf ds)
theorem ext_none {F F' : Fz} {H H' : Hp} {p : Addr} (g : Good F H) (e : Ext F H F' H') (hp : H' p = none) : NT H p := by
  by_cases t : F.T p
  · obtain ⟨x, y, z, _⟩ := (e.good.pot p (e.monoT p t)).2
    rw [z] at hp; cases hp
  · exact e.back (.none hp) t
theorem sl_lst (h : SA X es mr) : SL X (.List es pos) (mLst mr) := by
  refine ⟨PE.weak (pe_lst h.pa) fun σ H Q ⟨B, F, E, g, rl, q⟩ => ?_⟩
  refine ⟨B, F, E, g, rl, Tree.all_mono (fun ds k vs F1 H1 e1 p1 => ?_) (Tree.all_bind.mp q)⟩
  obtain ⟨hl, k⟩ := lineOk_all k
  exact ⟨by rw [p1.length]; exact hl, fun p hp => k p vs F1 _ (e1.trans (Ext.new e1.good hp)) upd_same (e1.good.free hp).1 (e1.good.free hp).2 (ext_none g e1 hp) p1⟩

/-! ### calls -/
/-- what a call of values asks, by data -/
def Fn1 (K : PySem.W.Frag) (r : List V → Hp → VK → Prop) (f : List D → Tree D) : Prop := ∀ F H vs ds Q, Good F H → Pks K F H vs ds → ((f ds).all fun z => ∀ w F' H', Ext F H F' H' → Rep K F' w z → Q w H') → r vs H Q
def mA (f : List D → Tree D) (m : En → Tree (List D)) : En → Tree D := fun E => (m E).bind f
theorem callA {K : PySem.W.Frag} {r : List V → Hp → VK → Prop} {f : List D → Tree D} {m : En → Tree (List D)} (hf : Fn1 K r f) {σ : L2.St} {H : Hp} {Q : VK} (h : tE K (mA f m) σ H Q) : tPA K m σ H fun vs H1 => r vs H1 Q := by
  obtain ⟨B, F, E, g, rl, q⟩ := h
  refine ⟨B, F, E, g, rl, Tree.all_mono (fun ds k vs F1 H1 e1 p1 => ?_) (Tree.all_bind.mp q)⟩
  exact hf F1 H1 vs ds Q e1.good p1 (Tree.all_mono (fun z kz w F2 H2 e2 rz => kz w F2 H2 (e1.trans e2) rz) k)
end
end R

set_option Elab.async false
set_option linter.all false
set_option maxRecDepth 100000
namespace R
open PySem PySem.Spec PyProof.Rows L2
open Tree (leaf fail)

/-! ### statements -/
inductive Out where
  | nx (E : En) | rt (d : D) | bk (E : En) | ct (E : En)
section
variable (K : PySem.W.Frag) (F0 : Fz) (H0 : Hp) (F : Fz) (D0 : Ends)
def B0 (H0 : Hp) : Addr → Prop := fun a => NT H0 a
def PostE (T : L2.St → Hp → Prop) (E : En) : Prop := ∀ σ' F' H', Ext F0 H0 F' H' → F.Le F' → RelE K (B0 H0) F' H' σ' E → T σ' H'
def Post : Out → Prop
  | .nx E => PostE K F0 H0 F D0.nx E
  | .rt d => ∀ v F' H', Ext F0 H0 F' H' → F.Le F' → Rep K F' v d → D0.rt v H'
  | .bk E => PostE K F0 H0 F D0.bk E
  | .ct E => PostE K F0 H0 F D0.ct E
end
def tS (K : PySem.W.Frag) (m : En → Tree Out) : TS := fun D0 σ H => ∃ F0 H0 F E, Ext F0 H0 F H ∧ RelE K (B0 H0) F H σ E ∧ (m E).all (Post K F0 H0 F D0)
structure SS (X : Cx) (st : Stmt) (m : En → Tree Out) : Prop where
  ps : PS X st (tS X.K m)
structure SSs (X : Cx) (st : List Stmt) (m : En → Tree Out) : Prop where
  ps : PSs X st (tS X.K m)
theorem Fz.Le.trans {F F1 F2 : Fz} (a : F.Le F1) (b : F1.Le F2) : F.Le F2 := ⟨a.p.trans b.p, fun c h => b.t c (a.t c h)⟩
theorem Fz.Le.refl (F : Fz) : F.Le F := ⟨Same.refl _, fun _ h => h⟩
section
variable {K : PySem.W.Frag} {F0 F F1 : Fz} {H0 : Hp} {D0 : Ends}
theorem Post.le {o : Out} (l : F.Le F1) (h : Post K F0 H0 F D0 o) : Post K F0 H0 F1 D0 o := by
  cases o with
  | nx E => exact fun σ' F' H' e l' r => h σ' F' H' e (l.trans l') r
  | rt d => exact fun v F' H' e l' r => h v F' H' e (l.trans l') r
  | bk E => exact fun σ' F' H' e l' r => h σ' F' H' e (l.trans l') r
  | ct E => exact fun σ' F' H' e l' r => h σ' F' H' e (l.trans l') r
end

section
variable {X : Cx} {st : Stmt} {rest : List Stmt} {m n : En → Tree Out} {e : Expr} {me : En → Tree D} {pos : Pos}
def oNx : En → Tree Out := fun E => leaf (.nx E)
def oSeq (m n : En → Tree Out) : En → Tree Out := fun E => (m E).bind fun o => match o with
  | .nx E' => n E'
  | o => leaf o
theorem ss_nil : SSs X [] oNx := ⟨PSs.weak pss_nil fun D0 σ H ⟨F0, H0, F, E, e, r, q⟩ => q σ F H e (Fz.Le.refl F) r⟩
theorem ss_cons (h1 : SS X st m) (h2 : SSs X rest n) : SSs X (st :: rest) (oSeq m n) := by
  refine ⟨PSs.weak (pss_cons h1.ps h2.ps) fun D0 σ H ⟨F0, H0, F, E, e, r, q⟩ => ?_⟩
  refine ⟨F0, H0, F, E, e, r, Tree.all_mono (fun o k => ?_) (Tree.all_bind.mp q)⟩
  cases o with
  | nx E' => exact fun σ' F' H' e' l r' => ⟨F0, H0, F', E', e', r', Tree.all_mono (fun o h => h.le l) k⟩
  | rt d => exact k
  | bk E' => exact k
  | ct E' => exact k
theorem ss_one (h1 : SS X st m) : SSs X [st] m := ⟨pss_one h1.ps⟩
theorem s_pass : SS X (.Pass pos) oNx := ⟨PS.weak ps_pass fun D0 σ H ⟨F0, H0, F, E, e, r, q⟩ => q σ F H e (Fz.Le.refl F) r⟩
def oBk : En → Tree Out := fun E => leaf (.bk E)
def oCt : En → Tree Out := fun E => leaf (.ct E)
theorem s_break : SS X (.Break pos) oBk := ⟨PS.weak ps_break fun D0 σ H ⟨F0, H0, F, E, e, r, q⟩ => q σ F H e (Fz.Le.refl F) r⟩
theorem s_continue : SS X (.Continue pos) oCt := ⟨PS.weak ps_continue fun D0 σ H ⟨F0, H0, F, E, e, r, q⟩ => q σ F H e (Fz.Le.refl F) r⟩
def oFail : En → Tree Out := fun _ => fail
theorem s_never : SS X st oFail := ⟨PS.weak ps_never fun D0 σ H ⟨F0, H0, F, E, e, r, q⟩ => q.elim⟩
/-- an expression in a statement -/
theorem exprIn {K : PySem.W.Frag} {F0 F : Fz} {H0 H : Hp} {σ : L2.St} {E : En} {Q : VK} (e : Ext F0 H0 F H) (r : RelE K (B0 H0) F H σ E) (h : (me E).all fun d => ∀ v F' H', Ext F0 H0 F' H' → F.Le F' → RelE K (B0 H0) F' H' σ E → Rep K F' v d → Q v H') : tE K me σ H Q :=
  ⟨B0 H0, F, E, e.good, r, Tree.all_mono (fun d k v F' H' e' p => k v F' H' (e.trans e') e'.le (r.ext e') p) h⟩
def oEx (me : En → Tree D) : En → Tree Out := fun E => (me E).bind fun _ => leaf (.nx E)
theorem s_expr (he : SE X e me) (hs : swapsWith e none pos.line X.env = pure false := by rfl) : SS X (.Expr e pos) (oEx me) := ⟨PS.weak (ps_expr he.pe hs) fun D0 σ H ⟨F0, H0, F, E, e, r, q⟩ =>
  exprIn e r (Tree.all_mono (fun d k v F' H' e' l r' p => k σ F' H' e' l r') (Tree.all_bind.mp q))⟩
def oRet (me : En → Tree D) : En → Tree Out := fun E => (me E).bind fun d => leaf (.rt d)
theorem s_ret (he : SE X e me) : SS X (.Return (some e) pos) (oRet me) := ⟨PS.weak (ps_ret he.pe) fun D0 σ H ⟨F0, H0, F, E, e, r, q⟩ =>
  exprIn e r (Tree.all_mono (fun d k v F' H' e' l r' p => k v F' H' e' l p) (Tree.all_bind.mp q))⟩
def oRetN : En → Tree Out := fun _ => leaf (.rt .non)
theorem s_retN : SS X (.Return none pos) oRetN := ⟨PS.weak ps_retN fun D0 σ H ⟨F0, H0, F, E, e, r, q⟩ => q .non F H e (Fz.Le.refl F) .non⟩
def En.put (E : En) (i : Nat) (d : D) : En := E.set i (some ⟨false, d⟩)
def En.putOwn (E : En) (i : Nat) (d : D) : En := E.set i (some ⟨true, d⟩)
def oSet (i : Nat) (me : En → Tree D) : En → Tree Out := fun E => (me E).bind fun d => leaf (.nx (E.put i d))
theorem s_asg {i : Nat} {te : TE} (h : PS X st (tAsg te (gName i))) (w : ∀ σ H Q, tE X.K me σ H Q → te σ H Q) : SS X st (oSet i me) := ⟨PS.weak h fun D0 σ H ⟨F0, H0, F, E, e, r, q⟩ =>
  w _ _ _ (exprIn e r (Tree.all_mono (fun d k v F' H' e' l r' p => k _ F' H' e' l (r'.put i p)) (Tree.all_bind.mp q)))⟩
/-- a list of one's own at a name -/
theorem RelE.putOwn {K : PySem.W.Frag} {B : Addr → Prop} {F : Fz} {H : Hp} {σ : L2.St} {E : En} {a : Addr} {xs : List V} {ds : List D} (r : RelE K B F H σ E) (i : Nat) (h : H a = some (.lst xs)) (rp : Reps K F xs ds) (n : F.P a = none) (t : ¬ F.T a) (b : B a)
    (ne : ∀ (j : Nat) d, j ≠ i → E[j]? = some (some ⟨true, d⟩) → σ[j]? ≠ some (some (.ref a))) : RelE K B F H (σ.set i (some (.ref a))) (En.putOwn E i (.lst ds)) where
  len := by simp [r.len, En.putOwn]
  val := fun j x hx => by
    by_cases hj : i = j
    · subst hj
      by_cases hl : i < E.length
      · rw [En.putOwn, List.getElem?_set_self hl] at hx; cases hx
      · rw [En.putOwn, List.getElem?_eq_none (by simpa using hl)] at hx; cases hx
    · rw [En.putOwn, List.getElem?_set_ne hj] at hx; rw [List.getElem?_set_ne hj]; exact r.val j x hx
  own := fun j x hx => by
    by_cases hj : i = j
    · subst hj
      by_cases hl : i < E.length
      · rw [En.putOwn, List.getElem?_set_self hl] at hx; cases hx
        exact ⟨a, xs, ds, List.getElem?_set_self (by rw [r.len]; exact hl), rfl, h, rp, n, t, b⟩
      · rw [En.putOwn, List.getElem?_eq_none (by simpa using hl)] at hx; cases hx
    · rw [En.putOwn, List.getElem?_set_ne hj] at hx; rw [List.getElem?_set_ne hj]; exact r.own j x hx
  dist := fun j k x y c hjk hx hy ha hb => by
    unfold En.putOwn at hx hy
    by_cases hj : i = j
    · subst hj
      rw [List.getElem?_set_ne hjk] at hy hb
      by_cases hl : i < σ.length
      · rw [List.getElem?_set_self hl] at ha; cases ha
        exact ne k y (Ne.symm hjk) hy hb
      · rw [List.getElem?_eq_none (by simpa using hl)] at ha; cases ha
    · rw [List.getElem?_set_ne hj] at hx ha
      by_cases hk : i = k
      · subst hk
        by_cases hl : i < σ.length
        · rw [List.getElem?_set_self hl] at hb; cases hb
          exact ne j x hjk hx ha
        · rw [List.getElem?_eq_none (by simpa using hl)] at hb; cases hb
      · rw [List.getElem?_set_ne hk] at hy hb
        exact r.dist j k x y c hjk hx hy ha hb
def oOwn (i : Nat) (ml : En → Tree (List D)) : En → Tree Out := fun E => (ml E).bind fun ds => leaf (.nx (E.putOwn i (.lst ds)))
theorem ownIn {K : PySem.W.Frag} {F0 F : Fz} {H0 H : Hp} {σ : L2.St} {E : En} {D0 : Ends} {i : Nat} {ml : En → Tree (List D)} (e : Ext F0 H0 F H) (r : RelE K (B0 H0) F H σ E) (q : (oOwn i ml E).all (Post K F0 H0 F D0)) : tL K ml σ H fun v H1 => D0.nx (σ.set i (some v)) H1 := by
  refine ⟨B0 H0, F, E, e.good, r, Tree.all_mono (fun ds k a xs F' H' e' h n t h0 rp => ?_) (Tree.all_bind.mp q)⟩
  refine k _ F' H' (e.trans e') e'.le ((r.ext e').putOwn i h rp n t ?_ fun j d _ hj hs => ?_)
  · by_cases t0 : F0.T a
    · exact absurd (e'.monoT _ (e.monoT _ t0)) t
    · exact e.back h0 t0
  · obtain ⟨a', xs', ds', h1, _, h3, _⟩ := r.own j d hj
    rw [h1] at hs; cases hs
    obtain ⟨ps, z⟩ := h0 _ h3; cases z
theorem s_own {i : Nat} {te : TE} (h : PS X st (tAsg te (gName i))) {ml : En → Tree (List D)} (w : ∀ σ H Q, tL X.K ml σ H Q → te σ H Q) : SS X st (oOwn i ml) := ⟨PS.weak h fun D0 σ H ⟨F0, H0, F, E, e, r, q⟩ => w _ _ _ (ownIn e r q)⟩
/-- own lists are made still -/
def frz1 (i : Nat) (E : En) : En := match E[i]? with
  | some (some ⟨true, d⟩) => E.set i (some ⟨false, d⟩)
  | _ => E
theorem freeze1 {K : PySem.W.Frag} {F0 F : Fz} {H0 H : Hp} {σ : L2.St} {E : En} (i : Nat) (e : Ext F0 H0 F H) (r : RelE K (B0 H0) F H σ E) : ∃ F', Ext F0 H0 F' H ∧ F.Le F' ∧ RelE K (B0 H0) F' H σ (frz1 i E) := by
  unfold frz1
  split
  · rename_i d hd
    obtain ⟨a, xs, ds, h1, rfl, h3, h4, h5, h6, h7⟩ := r.own i d hd
    have le : F.Le (F.add a (.lst xs)) := Fz.le_add h5
    have e' : Ext F0 H0 (F.add a (.lst xs)) H := e.freeze h3 h5 h6 h7
    refine ⟨F.add a (.lst xs), e', le, ?_⟩
    have hi : i < E.length := (List.getElem?_eq_some_iff.mp hd).1
    have rp : Rep K (F.add a (.lst xs)) (.ref a) (.lst ds) := .lst upd_same (h4.mono le)
    refine ⟨by simp [r.len], fun j x hx => ?_, fun j x hx => ?_, fun j k x y c hjk hx hy ha hb => ?_⟩
    · by_cases hj : i = j
      · subst hj
        rw [List.getElem?_set_self hi] at hx; cases hx
        exact ⟨.ref a, h1, rp⟩
      · rw [List.getElem?_set_ne hj] at hx
        obtain ⟨v, g1, g2⟩ := r.val j x hx
        exact ⟨v, g1, g2.mono le⟩
    · by_cases hj : i = j
      · subst hj
        rw [List.getElem?_set_self hi] at hx; cases hx
      · rw [List.getElem?_set_ne hj] at hx
        obtain ⟨b, ys, es, g1, rfl, g3, g4, g5, g6, g7⟩ := r.own j x hx
        have nb : b ≠ a := fun z => by
          subst z
          exact r.dist i j _ _ b hj hd hx h1 g1
        exact ⟨b, ys, es, g1, rfl, g3, g4.mono le, by rw [show (F.add a (.lst xs)).P b = F.P b from upd_ne nb]; exact g5, g6, g7⟩
    · have nj : i ≠ j := fun z => by
        subst z; rw [List.getElem?_set_self hi] at hx; cases hx
      have nk : i ≠ k := fun z => by
        subst z; rw [List.getElem?_set_self hi] at hy; cases hy
      rw [List.getElem?_set_ne nj] at hx
      rw [List.getElem?_set_ne nk] at hy
      exact r.dist j k x y c hjk hx hy ha hb
  · exact ⟨F, e, Fz.Le.refl F, r⟩
def oFrz (i : Nat) (m : En → Tree Out) : En → Tree Out := fun E => m (frz1 i E)
theorem s_frz (i : Nat) (h : SS X st m) : SS X st (oFrz i m) := ⟨PS.weak h.ps fun D0 σ H ⟨F0, H0, F, E, e, r, q⟩ => by
  obtain ⟨F', e', l, r'⟩ := freeze1 i e r
  exact ⟨F0, H0, F', frz1 i E, e', r', Tree.all_mono (fun o h => h.le l) q⟩⟩
def oIf (c : En → Tree Bool) (m n : En → Tree Out) : En → Tree Out := fun E => (c E).bind fun b => if b = true then m E else n E
theorem s_if {c : Expr} {a b : List Stmt} {mc : En → Tree Bool} (hc : ST X c mc) (ha : SSs X a m) (hb : SSs X b n) : SS X (.If c a b pos) (oIf mc m n) := by
  refine ⟨PS.weak (ps_if hc.pt ha.ps hb.ps) fun D0 σ H ⟨F0, H0, F, E, e, r, q⟩ => ?_⟩
  refine ⟨B0 H0, F, E, e.good, r, Tree.all_mono (fun z k F' H' e' => ?_) (Tree.all_bind.mp q)⟩
  cases z with
  | true => exact ⟨F0, H0, F', E, e.trans e', r.ext e', Tree.all_mono (fun o h => h.le e'.le) k⟩
  | false => exact ⟨F0, H0, F', E, e.trans e', r.ext e', Tree.all_mono (fun o h => h.le e'.le) k⟩
/-- a, b = x, y -/
def oPar (i j : Nat) (ma : En → Tree (List D)) : En → Tree Out := fun E => (ma E).bind fun ds => match ds with
  | [d, e] => leaf (.nx ((E.put i d).put j e))
  | _ => fail
theorem s_par {i j : Nat} {ta : TA} {ma : En → Tree (List D)} (h : PS X st (tPar i j ta)) (w : ∀ σ H Q, tA X.K ma σ H Q → ta σ H Q) : SS X st (oPar i j ma) := by
  refine ⟨PS.weak h fun D0 σ H ⟨F0, H0, F, E, e, r, q⟩ => w _ _ _ ?_⟩
  refine ⟨B0 H0, F, E, e.good, r, Tree.all_mono (fun ds k vs F' H' e' p => ?_) (Tree.all_bind.mp q)⟩
  cases p with
  | nil => exact False.elim k
  | cons p1 p =>
    cases p with
    | nil => exact False.elim k
    | cons p2 p =>
      cases p with
      | nil => exact ⟨_, _, rfl, k _ F' H' (e.trans e') e'.le (((r.ext e').put i p1).put j p2)⟩
      | cons _ _ => exact False.elim k
/-! ### while, by fuel -/
def oWhile (c : En → Tree Bool) (m : En → Tree Out) : Nat → En → Tree Out
  | 0, _ => fail
  | f + 1, E => (c E).bind fun b => if b = true then (m E).bind fun o => match o with
      | .nx E' => oWhile c m f E'
      | .ct E' => oWhile c m f E'
      | .bk E' => leaf (.nx E')
      | .rt d => leaf (.rt d)
    else leaf (.nx E)
theorem s_while (fuel : Nat) {c : Expr} {b : List Stmt} {mc : En → Tree Bool} (h : ∀ {tc tb}, PT X c tc → PSs X b tb → PS X st (tWhile tc tb)) (hc : ST X c mc) (hb : SSs X b m) : SS X st (oWhile mc m fuel) := by
  refine ⟨PS.weak (h hc.pt hb.ps) fun D0 σ H ⟨F0, H0, F, E, e, r, q⟩ => ?_⟩
  refine ⟨fun n σ H => ∃ F E, Ext F0 H0 F H ∧ RelE X.K (B0 H0) F H σ E ∧ (oWhile mc m n E).all (Post X.K F0 H0 F D0), ⟨fuel, F, E, e, r, q⟩, ?_⟩
  rintro n σ H ⟨F, E, e, r, q⟩
  cases n with
  | zero => exact q.elim
  | succ n =>
    refine ⟨B0 H0, F, E, e.good, r, Tree.all_mono (fun z k F' H' e' => ?_) (Tree.all_bind.mp q)⟩
    cases z with
    | false => exact k σ F' H' (e.trans e') e'.le (r.ext e')
    | true =>
      refine ⟨_, fun σ' H' p => ⟨n, Nat.lt_succ_self n, p⟩, ?_⟩
      refine ⟨F0, H0, F', E, e.trans e', r.ext e', Tree.all_mono (fun o k => ?_) (Tree.all_bind.mp k)⟩
      cases o with
      | nx E' => exact fun σ2 F2 H2 e2 l2 r2 => ⟨F2, E', e2, r2, Tree.all_mono (fun o h => h.le (e'.le.trans l2)) k⟩
      | ct E' => exact fun σ2 F2 H2 e2 l2 r2 => ⟨F2, E', e2, r2, Tree.all_mono (fun o h => h.le (e'.le.trans l2)) k⟩
      | bk E' => exact fun σ2 F2 H2 e2 l2 r2 => k σ2 F2 H2 e2 (e'.le.trans l2) r2
      | rt d => exact fun v F2 H2 e2 l2 r2 => k v F2 H2 e2 (e'.le.trans l2) r2
end

/-! ### what is walked -/
/-- the items that an iterator yields, one by one, while all that is still stays -/
def Yld (K : PySem.W.Frag) (J : It) (A : Fz → Hp → Prop) (ds : List D) : Prop := ∀ F' H', A F' H' → Good F' H' → ∀ i, (∀ d, ds[i]? = some d → J.go i H' ∧ ∀ x H'', J.yld i H' x H'' → ∃ F'', Ext F' H' F'' H'' ∧ Rep K F'' x d) ∧ (ds.length ≤ i → J.stop i H')
structure SI (X : Cx) (tg iter : Expr) (m : En → Tree (List D)) : Prop where
  pi : ∃ wi, PI X tg iter wi ∧ ∀ σ H R, (∃ B F E, Good F H ∧ RelE X.K B F H σ E ∧ (m E).all fun ds => ∀ J F' H', Ext F H F' H' → Yld X.K J (fun F2 _ => F'.Le F2) ds → R J H') → wi σ H R
/-- .. where own lists are not changed in the meantime (a comprehension) -/
structure SIp (X : Cx) (tg iter : Expr) (m : En → Tree (List D)) : Prop where
  pi : ∃ wi, PI X tg iter wi ∧ ∀ σ H R, (∃ B F E, Good F H ∧ RelE X.K B F H σ E ∧ (m E).all fun ds => ∀ J F' H', Ext F H F' H' → Yld X.K J (fun F2 H2 => Ext F' H' F2 H2) ds → R J H') → wi σ H R
theorem SI.sip {X : Cx} {tg iter : Expr} {m : En → Tree (List D)} (h : SI X tg iter m) : SIp X tg iter m := by
  obtain ⟨wi, h1, h2⟩ := h.pi
  refine ⟨wi, h1, fun σ H R ⟨B, F, E, g, r, q⟩ => h2 σ H R ⟨B, F, E, g, r, Tree.all_mono (fun ds k J F' H' e y => k J F' H' e fun F2 H2 a g => y F2 H2 a.le g) q⟩⟩
/-- a target, by data -/
def But (js : List Nat) (σ σ' : L2.St) : Prop := σ'.length = σ.length ∧ ∀ j, j ∉ js → σ'[j]? = σ[j]?
def tG (K : PySem.W.Frag) (js : List Nat) (g : D → En → Tree En) : TG := fun v σ H Q => ∃ B F E d, Good F H ∧ RelE K B F H σ E ∧ Rep K F v d ∧ (g d E).all fun E' => ∀ σ', RelE K B F H σ' E' → But js σ σ' → Q σ' H
structure SG (X : Cx) (target : Expr) (js : List Nat) (g : D → En → Tree En) : Prop where
  pg : PG X target (tG X.K js g)
structure SGs (X : Cx) (ts : List Expr) (js : List Nat) (g : List D → En → Tree En) : Prop where
  pg : PGs X ts fun vs σ H Q => ∃ B F E ds, Good F H ∧ RelE X.K B F H σ E ∧ Reps X.K F vs ds ∧ (g ds E).all fun E' => ∀ σ', RelE X.K B F H σ' E' → But js σ σ' → Q σ' H
theorem But.mono {js ks : List Nat} {σ σ' : L2.St} (h : But js σ σ') (l : ∀ j ∈ js, j ∈ ks) : But ks σ σ' := ⟨h.1, fun j n => h.2 j fun m => n (l j m)⟩
theorem PG.weak {X : Cx} {e : Expr} {t t' : TG} (h : PG X e t) (w : ∀ v σ H Q, t' v σ H Q → t v σ H Q) : PG X e t' := ⟨fun pins s σ H v u Q I r q => h.run pins s σ H v u Q I r (w v σ H Q q)⟩
theorem PGs.weak {X : Cx} {e : List Expr} {t t' : TGs} (h : PGs X e t) (w : ∀ v σ H Q, t' v σ H Q → t v σ H Q) : PGs X e t' := ⟨fun pins s σ H v u Q I r q => h.run pins s σ H v u Q I r (w v σ H Q q)⟩
section
variable {X : Cx}
def gPut (i : Nat) : D → En → Tree En := fun d E => leaf (E.put i d)
theorem sg_name {i : Nat} {x : Str} {pos : Pos} (h : PG X (.Name x pos) (gName i)) : SG X (.Name x pos) [i] (gPut i) := ⟨PG.weak h fun v σ H Q ⟨B, F, E, d, g, r, p, q⟩ => q _ (r.put i p) ⟨by simp, fun j hj => List.getElem?_set_ne (fun z => hj (by rw [z]; exact List.mem_cons_self))⟩⟩
def gsNil : List D → En → Tree En := fun ds E => match ds with
  | [] => leaf E
  | _ => fail
def gsCons (g : D → En → Tree En) (h : List D → En → Tree En) : List D → En → Tree En := fun ds E => match ds with
  | d :: ds => (g d E).bind (h ds)
  | _ => fail
theorem sgs_nil : SGs X [] [] gsNil := ⟨PGs.weak pgs_nil fun vs σ H Q ⟨B, F, E, ds, g, r, p, q⟩ => by
  cases p with
  | nil => exact ⟨rfl, q σ r ⟨rfl, fun _ _ => rfl⟩⟩
  | cons _ _ => exact q.elim⟩
theorem sgs_cons {e : Expr} {es : List Expr} {g : D → En → Tree En} {h : List D → En → Tree En} {js ks : List Nat} (h1 : SG X e js g) (h2 : SGs X es ks h)
    (hs : (assignEach (e :: es) X.env).map (·.2) = assign e X.env :: (assignEach es X.env).map (·.2) := by rfl) : SGs X (e :: es) (js ++ ks) (gsCons g h) := ⟨PGs.weak (pgs_cons h1.pg h2.pg hs) fun vs σ H Q ⟨B, F, E, ds, gd, r, p, q⟩ => by
  cases p with
  | nil => exact q.elim
  | cons p ps => exact ⟨_, _, rfl, B, F, E, _, gd, r, p, Tree.all_mono (fun E' k σ' r' b' => ⟨B, F, E', _, gd, r', ps, Tree.all_mono (fun E2 k2 σ2 r2 b2 => k2 σ2 r2 ⟨b2.1.trans b'.1, fun j hj => (b2.2 j fun m => hj (List.mem_append_right _ m)).trans (b'.2 j fun m => hj (List.mem_append_left _ m))⟩) k⟩) (Tree.all_bind.mp q)⟩⟩
def gTp (n : Nat) (g : List D → En → Tree En) : D → En → Tree En := fun d E => match d with
  | .tup ds => if ds.length = n then g ds E else fail
  | _ => fail
theorem sg_tup {es : List Expr} {k : Nat} {pos : Pos} {g : List D → En → Tree En} {n : Nat} {js : List Nat} (hc : X.calm = true) (h : SGs X es js g) (hn : (assignEach es X.env).length = n := by rfl) (hst : (assignEach es X.env).findIdx? (·.1) = none := by rfl) : SG X (.Tuple es k pos) js (gTp n g) := ⟨PG.weak (pg_tup hc h.pg hn hst) fun v σ H Q ⟨B, F, E, d, gd, r, p, q⟩ => by
  cases d with
  | tup ds =>
    cases p with
    | tup hs rs =>
      have q : (if ds.length = n then g ds E else fail).all _ := q
      split at q
      · rename_i hl
        exact ⟨_, _, rfl, sqT_same gd.sub hs.sq, by rw [rs.length]; exact hl, B, F, E, ds, gd, r, rs, q⟩
      · exact q.elim
  | _ => exact False.elim q⟩
/-- target = value, any target -/
def oAsg (me : En → Tree D) (g : D → En → Tree En) : En → Tree Out := fun E => (me E).bind fun d => (g d E).bind fun E' => leaf (.nx E')
theorem s_asgG {st : Stmt} {te : TE} {tg : TG} {me : En → Tree D} {g : D → En → Tree En} {js : List Nat} (h : PS X st (tAsg te tg)) (w : ∀ σ H Q, tE X.K me σ H Q → te σ H Q) (wg : ∀ v σ H Q, tG X.K js g v σ H Q → tg v σ H Q) : SS X st (oAsg me g) := ⟨PS.weak h fun D0 σ H ⟨F0, H0, F, E, e, r, q⟩ =>
  w _ _ _ (exprIn e r (Tree.all_mono (fun d k v F' H' e' l r' p => wg _ _ _ _ ⟨B0 H0, F', E, d, e'.good, r', p, Tree.all_mono (fun E' k σ' r2 _ => k σ' F' H' e' l r2) (Tree.all_bind.mp k)⟩) (Tree.all_bind.mp q)))⟩

/-! ### for -/
def oLoop (g : D → En → Tree En) (m : En → Tree Out) : List D → En → Tree Out
  | [], E => leaf (.nx E)
  | d :: ds, E => (g d E).bind fun E' => (m E').bind fun o => match o with
      | .nx E'' => oLoop g m ds E''
      | .ct E'' => oLoop g m ds E''
      | .bk E'' => leaf (.nx E'')
      | .rt d => leaf (.rt d)
def oFor (mi : En → Tree (List D)) (g : D → En → Tree En) (m : En → Tree Out) : En → Tree Out := fun E => (mi E).bind fun ds => oLoop g m ds E
theorem s_for {tg iter : Expr} {body : List Stmt} {pos : Pos} {mi : En → Tree (List D)} {g : D → En → Tree En} {m : En → Tree Out} (hp : PassesOwn (model X.prog X.w) X.A X.env X.xe) (hc : X.calm = true) {js : List Nat} (hi : SI X tg iter mi) (hg : SG X tg js g) (hb : SSs X body m)
    (hs : ∀ x, foldedSetIterable iter X.env x = pure x := by intro _; rfl) : SS X (.For tg iter body [] pos) (oFor mi g m) := by
  obtain ⟨wi, h1, h2⟩ := hi.pi
  refine ⟨PS.weak (ps_for hp hc h1 hg.pg hb.ps hs) fun D0 σ H ⟨F0, H0, F, E, e, r, q⟩ => h2 σ H _ ?_⟩
  refine ⟨B0 H0, F, E, e.good, r, Tree.all_mono (fun ds k J F1 H1 e1 y => ?_) (Tree.all_bind.mp q)⟩
  refine ⟨fun i n σ H => n = ds.length - i ∧ ∃ F2 E, Ext F0 H0 F2 H ∧ F1.Le F2 ∧ RelE X.K (B0 H0) F2 H σ E ∧ (oLoop g m (ds.drop i) E).all (Post X.K F0 H0 F2 D0), ⟨ds.length, rfl, F1, E, e.trans e1, Fz.Le.refl _, r.ext e1, Tree.all_mono (fun o h => h.le e1.le) k⟩, ?_⟩
  rintro i n σ H ⟨rfl, F2, E, e2, l2, r2, q2⟩
  obtain ⟨y1, y2⟩ := y F2 H l2 e2.good i
  by_cases hi : i < ds.length
  · have hd : ds[i]? = some ds[i] := List.getElem?_eq_getElem hi
    obtain ⟨go, yl⟩ := y1 _ hd
    rw [List.drop_eq_getElem_cons hi] at q2
    refine .inr ⟨go, fun σ H => ∃ F2 E, Ext F0 H0 F2 H ∧ F1.Le F2 ∧ RelE X.K (B0 H0) F2 H σ E ∧ (oLoop g m (ds.drop (i + 1)) E).all (Post X.K F0 H0 F2 D0), fun σ' H' p => ⟨ds.length - (i + 1), by omega, rfl, p⟩, fun x H' yx => ?_⟩
    obtain ⟨F3, e3, rx⟩ := yl x H' yx
    refine ⟨B0 H0, F3, E, ds[i], e3.good, r2.ext e3, rx, Tree.all_mono (fun E' k σ' r' _ => ?_) (Tree.all_bind.mp q2)⟩
    refine ⟨F0, H0, F3, E', e2.trans e3, r', Tree.all_mono (fun o k => ?_) (Tree.all_bind.mp k)⟩
    have l3 : F2.Le F3 := e3.le
    cases o with
    | nx E'' => exact fun σ4 F4 H4 e4 l4 r4 => ⟨F4, E'', e4, l2.trans (l3.trans l4), r4, Tree.all_mono (fun o h => h.le (l3.trans l4)) k⟩
    | ct E'' => exact fun σ4 F4 H4 e4 l4 r4 => ⟨F4, E'', e4, l2.trans (l3.trans l4), r4, Tree.all_mono (fun o h => h.le (l3.trans l4)) k⟩
    | bk E'' => exact fun σ4 F4 H4 e4 l4 r4 => k σ4 F4 H4 e4 (l3.trans l4) r4
    | rt d => exact fun v F4 H4 e4 l4 r4 => k v F4 H4 e4 (l3.trans l4) r4
  · refine .inl ⟨y2 (by omega), ?_⟩
    rw [List.drop_eq_nil_of_le (by omega)] at q2
    exact q2 σ F2 H e2 (Fz.Le.refl _) r2
end

/-! ### a def -/
def En.start (n : Nat) (ds : List D) : En := ds.map (fun d => some ⟨false, d⟩) ++ List.replicate (n - ds.length) none
/-- np parameters, n names -/
def mDef (np n : Nat) (m : En → Tree Out) : List D → Tree D := fun ds => if ds.length = np then (m (En.start n ds)).bind fun o => match o with
    | .nx _ => leaf .non
    | .rt d => leaf d
    | _ => fail
  else fail
theorem rel_start {K : PySem.W.Frag} {B : Addr → Prop} {F : Fz} {H : Hp} {vs : List V} {ds : List D} (r : Reps K F vs ds) (N : List Str) : RelE K B F H (L2.start N vs) (En.start N.length ds) where
  len := by unfold L2.start En.start; simp [r.length]
  val := fun i d h => by
    unfold En.start at h
    unfold L2.start
    by_cases hi : i < ds.length
    · rw [List.getElem?_append_left (by simpa using hi), List.getElem?_map] at h
      cases e : ds[i]? with
      | none => rw [e] at h; cases h
      | some d' =>
        rw [e] at h; cases h
        obtain ⟨v, h1, h2⟩ := r.get' e
        refine ⟨v, ?_, h2⟩
        rw [List.getElem?_append_left (by rw [List.length_map, r.length]; exact hi), List.getElem?_map, h1]
        rfl
    · rw [List.getElem?_append_right (by simpa using hi), List.getElem?_replicate] at h
      split at h <;> cases h
  own := fun i d h => by
    unfold En.start at h
    by_cases hi : i < ds.length
    · rw [List.getElem?_append_left (by simpa using hi), List.getElem?_map] at h
      cases e : ds[i]? with
      | none => rw [e] at h; cases h
      | some d' => rw [e] at h; cases h
    · rw [List.getElem?_append_right (by simpa using hi), List.getElem?_replicate] at h
      split at h <;> cases h
  dist := fun i j d e a _ h => by
    unfold En.start at h
    by_cases hi : i < ds.length
    · rw [List.getElem?_append_left (by simpa using hi), List.getElem?_map] at h
      cases e : ds[i]? with
      | none => rw [e] at h; cases h
      | some d' => rw [e] at h; cases h
    · rw [List.getElem?_append_right (by simpa using hi), List.getElem?_replicate] at h
      split at h <;> cases h
/-- what a def promises: its plain function -/
def spF (K : PySem.W.Frag) (f : List D → Tree D) : Sp := fun vs H Q _ => ∃ F ds, Good F H ∧ Reps K F vs ds ∧ (f ds).all fun d => ∀ v F' H', Ext F H F' H' → Rep K F' v d → Q v H'
theorem spF_len {K : PySem.W.Frag} {np n : Nat} {m : En → Tree Out} : ∀ vs H Q E, spF K (mDef np n m) vs H Q E → vs.length = np := fun vs H Q E ⟨F, ds, g, r, q⟩ => by
  unfold mDef at q
  split at q
  · rename_i h; rw [r.length]; exact h
  · exact q.elim
section
variable {P : Program} {w : World} {K : PySem.W.Frag} {mg : Str → Option Value} {base : Heap}
theorem def_ok {x qual : Str} {st : Stmt} {f : Addr} {fd : FuncData} {N ps : List Str} {k : Nat} {m : En → Tree Out} (np n : Nat) (F : Fun K x qual st f fd) (S : FnScope N ps (defScope st)) (hn : N.length = n) (hp : ps.length = np)
    (hbody : ∀ (cdv : Value) (A : Around) (outer : List Env) (s : Shared) (H : Hp) (E : XK), Room k (A.deeper (envOfC qual (defScope st) s.heap.objs.size f cdv)) →
      SSs (cxOf CX0 P w K mg base N qual (defScope st) f cdv A outer s H E).nox (defBody st) m) : FnOk P w K mg base CX0 (k + 1) f fd ps (spF K (mDef np n m)) := by
  subst hn hp
  refine F.ok S (fun vs H Q E h => spF_len vs H Q E h) (fun cdv A outer s H vs Q E hr h => ?_)
  obtain ⟨F, ds, g, r, q⟩ := h
  refine ⟨_, (hbody cdv A outer s H E hr).ps, F, H, F, En.start N.length ds, Ext.refl g, rel_start r N, ?_⟩
  unfold mDef at q
  split at q
  · refine Tree.all_mono (fun o k => ?_) (Tree.all_bind.mp q)
    cases o with
    | nx E => exact fun σ' F' H' e l r => k .non F' H' e .non
    | rt d => exact fun v F' H' e l r => k v F' H' e r
    | bk E => exact False.elim k
    | ct E => exact False.elim k
  · exact q.elim
end
section
variable {X : Cx} {k : Nat} {f : Addr} {fd : FuncData} {ps : List Str} {fn : List D → Tree D} {x : Str} {p pos : Pos} {e : Expr} {es : List Expr} {ma : En → Tree (List D)}
theorem se_call (F : FnOk X.prog X.w X.K X.mg X.base CX0 k f fd ps (spF X.K fn)) (hr : Room k X.A) (hg : Gl X x) (hm : X.mg x = some (.ref f)) (hk : PySem.W.keepIn X.K (.ref f) = true) (hb : Binds X.K fd ps [])
    (ha : SA X (e :: es) ma) (hdb : (x == ("__debug__" : Str)) = false := by decide) (he : starEach (e :: es) X.env = (false, eval e X.env) :: starEach es X.env := by rfl) (hpl : (backTo pos (starEach es X.env)).any (·.1) = false := by rfl) :
    SE X (.Call (.Name x p) (e :: es) [] pos) (mA fn ma) := by
  refine ⟨PE.weak (pe_call F hr hg hm hk hb .nil pass0 ha.pa hdb he hpl) fun σ H Q ⟨B, F, E, g, rl, q⟩ => ?_⟩
  refine ⟨B, F, E, g, rl, Tree.all_mono (fun ds k vs F1 H1 e1 p1 => ?_) (Tree.all_bind.mp q)⟩
  show spF X.K fn (vs ++ []) H1 Q E0
  rw [List.append_nil]
  exact ⟨F1, ds, e1.good, p1, Tree.all_mono (fun z kz w F2 H2 e2 rz => kz w F2 H2 (e1.trans e2) rz) k⟩
end
end R

set_option Elab.async false
set_option linter.all false
set_option maxRecDepth 100000
namespace R
open PySem PySem.Spec PyProof.Rows L2
open Tree (leaf fail)
/-! ### comprehensions -/
def wipeE (E : En) : List Nat → En
  | [] => E
  | v :: vs => (wipeE E vs).set v none
theorem RelE.wipe {K : PySem.W.Frag} {B : Addr → Prop} {F : Fz} {H : Hp} {σ : L2.St} {E : En} (r : RelE K B F H σ E) : ∀ vs : List Nat, RelE K B F H (L2.wipe σ vs) (wipeE E vs)
  | [] => r
  | v :: vs => (RelE.wipe r vs).drop v none
theorem wipe_in {σ : L2.St} {i : Nat} : ∀ {vs : List Nat}, i ∈ vs → i < σ.length → (L2.wipe σ vs)[i]? = some none
  | v :: vs, h, hl => by
    unfold L2.wipe
    by_cases e : v = i
    · subst e; exact List.getElem?_set_self (by rw [wipe_length]; exact hl)
    · rw [List.getElem?_set_ne e]
      rcases List.mem_cons.mp h with z | z
      · exact absurd z.symm e
      · exact wipe_in z hl
theorem wipe_but {σ σ' : L2.St} {vs : List Nat} (h : But vs σ σ') : L2.wipe σ' vs = L2.wipe σ vs := by
  have hl := h.1
  refine List.ext_getElem? fun i => ?_
  by_cases m : i ∈ vs
  · by_cases q : i < σ.length
    · rw [wipe_in m q, wipe_in m (by omega)]
    · rw [List.getElem?_eq_none (by rw [wipe_length]; omega), List.getElem?_eq_none (by rw [wipe_length]; omega)]
  · rw [wipe_out m, wipe_out m]; exact h.2 i m
theorem wipe_wipe {σ : L2.St} {vs : List Nat} : L2.wipe (L2.wipe σ vs) vs = L2.wipe σ vs := wipe_but ⟨wipe_length σ vs, fun i m => wipe_out m⟩
def lcLoop (g : D → En → Tree En) (mt : En → Tree Bool) (me : En → Tree D) (E : En) : List D → Tree (List D)
  | [] => leaf []
  | d :: ds => (g d E).bind fun E' => (mt E').bind fun b => if b = true then (me E').bind fun y => (lcLoop g mt me E ds).bind fun r => leaf (y :: r) else lcLoop g mt me E ds
def mLc (mi : En → Tree (List D)) (vs : List Nat) (g : D → En → Tree En) (mt : En → Tree Bool) (me : En → Tree D) : En → Tree (List D) := fun E => (mi E).bind fun ds => lineOk ds.length (lcLoop g mt me (wipeE E vs) ds)
/-- a clause's tests -/
structure STs (X : Cx) (ifs : List Expr) (m : En → Tree Bool) : Prop where
  pts : PTs X ifs (tT X.K m)
def tYesM : En → Tree Bool := fun _ => leaf true
section
variable {X : Cx}
theorem PTs.weak {es : List Expr} {t t' : TT} (h : PTs X es t) (w : ∀ σ H Q, t' σ H Q → t σ H Q) : PTs X es t' := ⟨fun pins s σ H Q I q => h.run pins s σ H Q I (w σ H Q q)⟩
theorem sts_nil : STs X [] tYesM := ⟨PTs.weak pts_nil fun σ H Q ⟨B, F, E, g, r, q⟩ => q F H (Ext.refl g)⟩
theorem sts_one {c : Expr} {m : En → Tree Bool} (h : ST X c m) : STs X [c] m := ⟨pts_one h.pt⟩
theorem lc_w {K : PySem.W.Frag} {wi : TI} {mi : En → Tree (List D)} {js vs : List Nat} {g : D → En → Tree En} {mt : En → Tree Bool} {me : En → Tree D} {σ : L2.St} {H : Hp} {Q : VK}
    (h2 : ∀ σ H R, (∃ B F E, Good F H ∧ RelE K B F H σ E ∧ (mi E).all fun ds => ∀ J F' H', Ext F H F' H' → Yld K J (fun F2 H2 => Ext F' H' F2 H2) ds → R J H') → wi σ H R) (hj : ∀ j ∈ js, j ∈ vs)
    (h : tL K (mLc mi vs g mt me) σ H Q) : tLc wi (tG K js g) (tT K mt) (tE K me) vs σ H Q := by
  obtain ⟨B, F, E, gd, rl, q⟩ := h
  refine h2 σ H _ ⟨B, F, E, gd, rl, Tree.all_mono (fun ds k J F1 H1 e1 y => ?_) (Tree.all_bind.mp q)⟩
  obtain ⟨hz, k⟩ := lineOk_all k
  intro L hL
  -- the new list
  have g1 : Good F1 (upd H1 L (.lst [])) := e1.good.new hL
  have n1 := e1.good.free hL
  have e2 : Ext F1 H1 F1 (upd H1 L (.lst [])) := Ext.new e1.good hL
  refine ⟨fun i n H' => n = ds.length - i ∧ ∃ F' acc xs, Ext F1 H1 F' H' ∧ H' L = some (.lst xs) ∧ F'.P L = none ∧ ¬ F'.T L ∧ Reps K F' xs acc ∧ acc.length ≤ i ∧
    ((lcLoop g mt me (wipeE E vs) (ds.drop i)).all fun r => ∀ a xs F'' H'', Ext F H F'' H'' → H'' a = some (.lst xs) → F''.P a = none → ¬ F''.T a → NT H a → Reps K F'' xs (acc ++ r) → Q (.ref a) H''),
    ⟨ds.length, rfl, F1, [], [], e2, upd_same, n1.1, n1.2, .nil, Nat.zero_le _, k⟩, ?_⟩
  rintro i n H' ⟨rfl, F', acc, xs, e', hL', np, nt, ra, hai, q'⟩
  obtain ⟨y1, y2⟩ := y F' H' e' e'.good i
  have h0 : NT H L := ext_none gd e1 hL
  by_cases hi : i < ds.length
  · have hd : ds[i]? = some ds[i] := List.getElem?_eq_getElem hi
    obtain ⟨go, yl⟩ := y1 _ hd
    rw [List.drop_eq_getElem_cons hi] at q'
    refine .inr ⟨go, fun H3 => ∃ F' acc xs, Ext F1 H1 F' H3 ∧ H3 L = some (.lst xs) ∧ F'.P L = none ∧ ¬ F'.T L ∧ Reps K F' xs acc ∧ acc.length ≤ i + 1 ∧
      ((lcLoop g mt me (wipeE E vs) (ds.drop (i + 1))).all fun r => ∀ a xs F'' H'', Ext F H F'' H'' → H'' a = some (.lst xs) → F''.P a = none → ¬ F''.T a → NT H a → Reps K F'' xs (acc ++ r) → Q (.ref a) H''),
      fun H3 p => ⟨ds.length - (i + 1), by omega, rfl, p⟩, fun x H3 yx => ?_⟩
    obtain ⟨F3, e3, rx⟩ := yl x H3 yx
    have er := (e1.trans e').trans e3
    obtain ⟨hL3, np3, nt3⟩ := own_ext e3 hL' np nt
    refine ⟨B, F3, wipeE E vs, ds[i], e3.good, (rl.ext er).wipe vs, rx, Tree.all_mono (fun E' k σ' r' b' => ?_) (Tree.all_bind.mp q')⟩
    have hw : L2.wipe σ' vs = L2.wipe σ vs := by
      rw [wipe_but (b'.mono hj)]
      exact wipe_wipe
    refine ⟨hw, B, F3, E', e3.good, r', Tree.all_mono (fun b k F4 H4 e4 => ?_) (Tree.all_bind.mp k)⟩
    obtain ⟨hL4, np4, nt4⟩ := own_ext e4 hL3 np3 nt3
    cases b with
    | false =>
      rw [if_neg Bool.false_ne_true] at k ⊢
      exact ⟨F4, acc, xs, (e'.trans e3).trans e4, hL4, np4, nt4, ra.mono (e3.le.trans e4.le), by omega, k⟩
    | true =>
      rw [if_pos rfl] at k ⊢
      refine ⟨B, F4, E', e4.good, r'.ext e4, Tree.all_mono (fun d k y F5 H5 e5 ry => ?_) (Tree.all_bind.mp k)⟩
      obtain ⟨hL5, np5, nt5⟩ := own_ext e5 hL4 np4 nt4
      refine ⟨xs, hL5, by rw [ra.length]; omega, F5, acc ++ [d], xs ++ [y], (((e'.trans e3).trans e4).trans e5).write np5 nt5 (.none hL) ⟨_, hL5⟩, upd_same, np5, nt5, (ra.mono ((e3.le.trans e4.le).trans e5.le)).append (.cons ry .nil), by rw [List.length_append]; show acc.length + 1 ≤ i + 1; omega, ?_⟩
      refine Tree.all_mono (fun r k => ?_) (Tree.all_bind.mp k)
      intro a zs F'' H'' e'' z1 z2 z3 z4 z5
      exact k a zs F'' H'' e'' z1 z2 z3 z4 (by rw [List.append_assoc] at z5; exact z5)
  · refine .inl ⟨y2 (by omega), ?_⟩
    rw [List.drop_eq_nil_of_le (by omega)] at q'
    have q' := q' L xs F' H' (e1.trans e') hL' np nt h0
    rw [List.append_nil] at q'
    exact q' ra
/-- [elt for tg in iter if ..] -/
theorem sl_lc {elt tg iter : Expr} {ifs : List Expr} {scope : Scope} {own : List (Str × Nat)} {pos : Pos} {mi : En → Tree (List D)} {js : List Nat} {g : D → En → Tree En} {mt : En → Tree Bool} {me : En → Tree D}
    (hc : X.calm = true) (hN : X.N.Nodup) (hi : SIp X tg iter mi) (ok : BlkOk X.N X.env.scope scope own)
    (hg : ∀ (s : Shared) (H : Hp) (C : Addr) (cl : List (Str × Addr)) (fp : List Addr), SG (X.blk s H scope (compEnvC scope cl C X.env) fp) tg js g) (ht : ∀ (s : Shared) (H : Hp) (C : Addr) (cl : List (Str × Addr)) (fp : List Addr), STs (X.blk s H scope (compEnvC scope cl C X.env) fp) ifs mt)
    (he : ∀ (s : Shared) (H : Hp) (C : Addr) (cl : List (Str × Addr)) (fp : List Addr), SE (X.blk s H scope (compEnvC scope cl C X.env) fp) elt me) (hj : ∀ j ∈ js, j ∈ own.map (·.2)) (hs : ∀ x, foldedSetIterable iter X.env x = pure x := by intro _; rfl) :
    SL X (.ListComp elt [⟨tg, iter, ifs, 0⟩] scope pos) (mLc mi (own.map (·.2)) g mt me) := by
  obtain ⟨wi, h1, h2⟩ := hi.pi
  exact ⟨PE.weak (pe_lc hc hN h1 ok (fun s H C cl fp => (hg s H C cl fp).pg) (fun s H C cl fp => (ht s H C cl fp).pts) (fun s H C cl fp => (he s H C cl fp).pe) hs) fun σ H Q h => lc_w h2 hj h⟩
/-- name = [..] on one line -/
theorem ps_lc {i : Nat} {y : Str} {py : Pos} {elt tg iter : Expr} {ifs : List Expr} {scope : Scope} {own : List (Str × Nat)} {pos spos : Pos} {mi : En → Tree (List D)} {js : List Nat} {g : D → En → Tree En} {mt : En → Tree Bool} {me : En → Tree D}
    (hc : X.calm = true) (hN : X.N.Nodup) (hy : X.N[i]? = some y) (hyl : X.env.scope.names.lookup y = some .local)
    (hsw : swapsWith (.ListComp elt [⟨tg, iter, ifs, 0⟩] scope pos) (some (.Name y py)) spos.line X.env = pure true) (hi : SIp X tg iter mi) (ok : BlkOk X.N X.env.scope scope own)
    (hg : ∀ (s : Shared) (H : Hp) (C : Addr) (cl : List (Str × Addr)) (fp : List Addr), SG (X.blk s H scope (compEnvC scope cl C X.env) fp) tg js g) (ht : ∀ (s : Shared) (H : Hp) (C : Addr) (cl : List (Str × Addr)) (fp : List Addr), STs (X.blk s H scope (compEnvC scope cl C X.env) fp) ifs mt)
    (he : ∀ (s : Shared) (H : Hp) (C : Addr) (cl : List (Str × Addr)) (fp : List Addr), SE (X.blk s H scope (compEnvC scope cl C X.env) fp) elt me) (hj : ∀ j ∈ js, j ∈ own.map (·.2)) (hs : ∀ x, foldedSetIterable iter X.env x = pure x := by intro _; rfl) :
    ∃ te, PS X (.Assign [.Name y py] (.ListComp elt [⟨tg, iter, ifs, 0⟩] scope pos) spos) (tAsg te (gName i)) ∧ ∀ σ H Q, tL X.K (mLc mi (own.map (·.2)) g mt me) σ H Q → te σ H Q := by
  obtain ⟨wi, h1, h2⟩ := hi.pi
  exact ⟨_, ps_setLc hc hN hy hyl hsw h1 ok (fun s H C cl fp => (hg s H C cl fp).pg) (fun s H C cl fp => (ht s H C cl fp).pts) (fun s H C cl fp => (he s H C cl fp).pe) hs, fun σ H Q h => lc_w h2 hj h⟩
theorem tL_of_E {K : PySem.W.Frag} {ml : En → Tree (List D)} {σ : L2.St} {H : Hp} {Q : VK} (h : tE K (mList ml) σ H Q) : tL K ml σ H Q := by
  obtain ⟨B, F, E, g, r, q⟩ := h
  exact ⟨B, F, E, g, r, Tree.all_mono (fun ds k a xs F' H' e h' n t h0 rp => k (.ref a) (F'.add a (.lst xs)) H' (e.freeze h' n t h0) (.lst upd_same (rp.mono (Fz.le_add n)))) (Tree.all_bind.mp q)⟩
theorem s_ownLc {st : Stmt} {i : Nat} {ml : En → Tree (List D)} (h : ∃ te, PS X st (tAsg te (gName i)) ∧ ∀ σ H Q, tL X.K ml σ H Q → te σ H Q) : SS X st (oOwn i ml) := by
  obtain ⟨te, h1, h2⟩ := h
  exact s_own h1 h2
theorem s_setLc {st : Stmt} {i : Nat} {ml : En → Tree (List D)} (h : ∃ te, PS X st (tAsg te (gName i)) ∧ ∀ σ H Q, tL X.K ml σ H Q → te σ H Q) : SS X st (oSet i (mList ml)) := by
  obtain ⟨te, h1, h2⟩ := h
  exact s_asg h1 fun σ H Q h => h2 σ H Q (tL_of_E h)
end
end R

set_option Elab.async false
set_option linter.all false
set_option maxRecDepth 100000
namespace R
open PySem PySem.Spec PyProof.Rows L2
open Tree (leaf fail)
theorem OpR.or {X : Cx} {f : Value → Value → Sem Value} {r r' : R2} (h : OpR X f r) (h' : OpR X f r') : OpR X f (fun x y H Q => r x y H Q ∨ r' x y H Q) := by
  intro pins s σ H x y v u Q I rx ry q
  rcases q with q | q
  · exact h pins s σ H x y v u Q I rx ry q
  · exact h' pins s σ H x y v u Q I rx ry q
section
variable {X : Cx} {K : PySem.W.Frag}

/-! ### + -/
def opAdd : D → D → Tree D
  | .int i, .int j => leaf (.int (i + j))
  | .lst xs, .lst ys => lineOk (xs.length + ys.length) (leaf (.lst (xs ++ ys)))
  | .tup xs, .tup ys => lineOk (xs.length + ys.length) (leaf (.tup (xs ++ ys)))
  | .str x, .str y => lineOk (x.length + y.length) (leaf (.str (x ++ y)))
  | _, _ => fail
def rStrAdd : R2 := fun x y H Q => ∃ i j, x = .str i ∧ y = .str j ∧ i.length + j.length ≤ sizeLine ∧ Q (.str (i ++ j)) H
def rAddAll (K : PySem.W.Frag) : R2 := fun x y H Q => rI0 (fun i j => .int (i + j)) x y H Q ∨ rCat x y H Q ∨ rCatA K x y H Q ∨ rStrAdd x y H Q
theorem or_add : OpR X (binaryOp .Add) (rAddAll X.K) := OpR.or op_add (OpR.or op_cat (OpR.or op_catA op_add_str))
theorem o2_add : Op2 K (rAddAll K) opAdd := by
  intro F H v u d e Q g p1 p2 q
  unfold opAdd at q
  split at q
  · cases p1.int; cases p2.int
    exact .inl ⟨_, _, rfl, rfl, q _ F H (Ext.refl g) (.int _)⟩
  · obtain ⟨hl, q⟩ := lineOk_all q
    obtain ⟨a, xs, rfl, h1, r1⟩ := p1.lst g
    obtain ⟨b, ys, rfl, h2, r2⟩ := p2.lst g
    refine .inr (.inl ⟨a, b, xs, ys, rfl, rfl, h1, h2, by rw [r1.length, r2.length]; exact hl, fun p hp => ?_⟩)
    exact q _ (F.add p (.lst (xs ++ ys))) _ (Ext.addNew g hp) (.lst upd_same ((r1.append r2).mono (Fz.le_add (g.free hp).1)))
  · obtain ⟨hl, q⟩ := lineOk_all q
    obtain ⟨a, xs, rfl, h1, r1⟩ := p1.tup g
    obtain ⟨b, ys, rfl, h2, r2⟩ := p2.tup g
    have n1 : ∀ {c : Addr} {zs : List V} {ds : List D}, Pk K F H (.ref c) (.tup ds) → Rep K F (.ref c) (.tup ds) := fun {c zs ds} h => by cases h with | rep r => exact r
    refine .inr (.inr (.inl ⟨a, b, xs, ys, rfl, rfl, h1, h2, by rw [r1.length, r2.length]; exact hl, fun ex => ?_, fun ex ey => ?_, fun ex ey p hp => ?_⟩))
    · subst ex; cases r1
      exact q _ F H (Ext.refl g) (n1 (zs := []) p2)
    · subst ey; cases r2
      rw [List.append_nil] at q
      exact q _ F H (Ext.refl g) (n1 (zs := []) p1)
    · exact q _ (F.add p (.tup (xs ++ ys))) _ (Ext.addNew g hp) (.tup (.of upd_same) ((r1.append r2).mono (Fz.le_add (g.free hp).1)))
  · obtain ⟨hl, q⟩ := lineOk_all q
    cases p1.str; cases p2.str
    exact .inr (.inr (.inr ⟨_, _, rfl, rfl, hl, q _ F H (Ext.refl g) (.str _)⟩))
  · exact q.elim

/-! ### ints -/
def opI (c : Int → Int → Bool) (f : Int → Int → Int) : D → D → Tree D
  | .int i, .int j => if c i j = true then leaf (.int (f i j)) else fail
  | _, _ => fail
theorem o2_int {C : Int → Int → Prop} {c : Int → Int → Bool} {f : Int → Int → Int} (h : ∀ i j, c i j = true → C i j) : Op2 K (rI C fun i j => .int (f i j)) (opI c f) := by
  intro F H v u d e Q g p1 p2 q
  unfold opI at q
  split at q
  · split at q
    · cases p1.int; cases p2.int
      exact ⟨_, _, rfl, rfl, h _ _ (by assumption), q _ F H (Ext.refl g) (.int _)⟩
    · exact q.elim
  · exact q.elim
def opSub : D → D → Tree D
  | .int i, .int j => leaf (.int (i - j))
  | _, _ => fail
theorem o2_sub : Op2 K (rI0 fun i j => .int (i - j)) opSub := by
  intro F H v u d e Q g p1 p2 q
  unfold opSub at q
  split at q
  · cases p1.int; cases p2.int
    exact ⟨_, _, rfl, rfl, q _ F H (Ext.refl g) (.int _)⟩
  · exact q.elim
def mulB (i j : Int) : Bool := decide (i.natAbs.log2 + j.natAbs.log2 < 1000000)
def divB (i j : Int) : Bool := decide (0 < j) && decide (j.natAbs.log2 < 9000)
def powB (i j : Int) : Bool := decide (0 ≤ j) && decide (j ≤ 1000000) && decide (i.natAbs < 2 ^ 64)
def opDiv : D → D → Tree D := opI divB fun i j => i / j
def opMod : D → D → Tree D := opI (fun _ j => decide (0 < j)) fun i j => i % j
def opPow : D → D → Tree D := opI powB fun i j => i ^ j.toNat
theorem o2_div : Op2 K (rI CDivW fun i j => .int (i / j)) opDiv := o2_int fun i j h => by
  unfold divB at h
  rw [Bool.and_eq_true, decide_eq_true_eq, decide_eq_true_eq] at h
  exact h
theorem o2_mod : Op2 K (rI (fun _ j => 0 < j) fun i j => .int (i % j)) opMod := o2_int fun i j h => by simpa using h
theorem o2_pow : Op2 K (rI CPow fun i j => .int (i ^ j.toNat)) opPow := o2_int fun i j h => by
  unfold powB at h
  simp only [Bool.and_eq_true, decide_eq_true_eq] at h
  exact ⟨h.1.1, h.1.2, h.2⟩

/-! ### * -/
def repOk (n : Nat) (k : Int) : Bool := decide (-(2 ^ 63) ≤ k) && decide (k < 2 ^ 63) && decide (n * k.toNat ≤ sizeLine)
/-- t * 1 is t -/
theorem tuple_mul1 (l : Addr) (items : Array Value) (n : Nat) (dd : Option Addr) (sl : Array (Option Value)) (u : Tok) :
    Meets (Builtin.«tuple.__mul__» ⟨[.ref l, .int 1 u], []⟩) (fun _ R s => s.heap.get? l = some { cls := .type "tuple", dict := dd, data := .seq items n, slots := sl } ∧ R (.ok (.ret (Value.ref l))) s) :=
  .of_wp fun prog w A R s h => by
    obtain ⟨hp, g, d, tk, os⟩ := s
    obtain ⟨hl, h⟩ := h
    have f1 := AutoSeq1.idx_int
    wp_walk using wpAny_loadPart' hl
    repeat (first
      | (refine wpAny_ite_false (decide_eq_false (by decide)) ?_; wp_walk using wpAny_loadPart' hl)
      | (refine wpAny_ite_true (decide_eq_true (by simp)) ?_; wp_walk using wpAny_loadPart' hl))
    exact ⟨_, rfl, h⟩
def rRepT1 (K : PySem.W.Frag) : R2 := fun x y H Q => ∃ l xs, x = .ref l ∧ y = .int 1 ∧ SqT K H l xs ∧ Q (.ref l) H
theorem op_repT1 : OpR X (binaryOp .Mult) (rRepT1 X.K) := by
  intro pins s σ H x y v u Q I rx ry h
  obtain ⟨l, xs, rfl, rfl, hT, q⟩ := h
  cases rx
  obtain ⟨t, rfl⟩ := ry
  obtain ⟨its, r, ⟨⟨cls, dd, data, sl⟩, ho, hc, n, hd⟩, hs⟩ := I.tuple hT
  simp only at hc hd
  subst hc hd
  refine wpAny_binaryOp_repeat_ref (T := "tuple") (U := "int") (by decide) ⟨_, ho, rfl⟩ (fun s' => typeIs_int s' 1 t) noFill_tuple_mul F.fills_int_mul F.slot_int_rmul repeat_tuple F.slot_int_index.lookup
    (call_meets F.slot_int_rmul (typeIs_int s 1 t) F.entry_int_rmul (F.args_int_rmul_2 _ _) (int_rmul_tuple 1 t l its.toArray n dd sl)
      ⟨ho, rfl, ⟨_, ho, rfl⟩, call_meets F.slot_tuple_mul ⟨_, ho, rfl⟩ F.entry_tuple_mul (F.args_tuple_mul_2 _ _) (tuple_mul1 l its.toArray n dd sl t) ⟨ho, ?_⟩⟩)
  exact ⟨.ref l, H, I, rfl, q⟩
/-- t * k is empty for k ≤ 0 -/
theorem tuple_mul0 (l : Addr) (items : Array Value) (n : Nat) (dd : Option Addr) (sl : Array (Option Value)) (x : Int) (u : Tok) (c0 : (decide (x < -(2 ^ 63)) || decide (x ≥ 2 ^ 63)) = false) (c1 : (items.isEmpty || x == 1) = false) (c2 : (decide (x ≤ 0) || items.isEmpty) = true) :
    Meets (Builtin.«tuple.__mul__» ⟨[.ref l, .int x u], []⟩) (fun _ R s => s.heap.get? l = some { cls := .type "tuple", dict := dd, data := .seq items n, slots := sl } ∧
      R (.ok (.ret (Value.ref s.heap.objs.size))) { s with heap := s.heap.push { cls := Value.type "tuple", data := Data.seq #[] }, toks := s.toks }) :=
  .of_wp fun prog w A R s h => by
    obtain ⟨hp, g, d, tk, os⟩ := s
    obtain ⟨hl, h⟩ := h
    have f1 := AutoSeq1.idx_int
    wp_walk using wpAny_loadPart' hl
    repeat (first
      | (refine wpAny_ite_false (decide_eq_false (by rw [c0]; exact Bool.false_ne_true)) ?_; wp_walk using wpAny_loadPart' hl)
      | (refine wpAny_ite_false (decide_eq_false (by rw [c1]; exact Bool.false_ne_true)) ?_; wp_walk using wpAny_loadPart' hl)
      | (refine wpAny_ite_true (decide_eq_true c2) ?_; wp_walk using wpAny_loadPart' hl))
    exact ⟨_, rfl, h⟩
def rRepT0 (K : PySem.W.Frag) : R2 := fun x y H Q => ∃ l k xs, x = .ref l ∧ y = .int k ∧ SqT K H l xs ∧ xs ≠ [] ∧ k ≤ 0 ∧ -(2 ^ 62) ≤ k ∧ ∀ p, H p = none → Q (.ref p) (upd H p (.tup []))
theorem op_repT0 : OpR X (binaryOp .Mult) (rRepT0 X.K) := by
  intro pins s σ H x y v u Q I rx ry h
  obtain ⟨l, k, xs, rfl, rfl, hT, hne, h1, h2, q⟩ := h
  cases rx
  obtain ⟨t, rfl⟩ := ry
  obtain ⟨its, r, ⟨⟨cls, dd, data, sl⟩, ho, hc, n, hd⟩, hs⟩ := I.tuple hT
  simp only at hc hd
  subst hc hd
  have hle : its.length = xs.length := r.length.symm
  have hn : its ≠ [] := fun e => hne (by
    rw [e] at hle
    exact List.eq_nil_of_length_eq_zero hle.symm)
  have hi : its.toArray.isEmpty = false := by
    cases its with
    | nil => exact absurd rfl hn
    | cons a b => rfl
  have c0 : (decide (k < -(2 ^ 63)) || decide (k ≥ 2 ^ 63)) = false := by
    rw [decide_eq_false (by omega), decide_eq_false (by omega)] <;> rfl
  have c1 : (its.toArray.isEmpty || k == 1) = false := by
    rw [hi, Bool.false_or]
    exact beq_eq_false_iff_ne.mpr (by omega)
  have c2 : (decide (k ≤ 0) || its.toArray.isEmpty) = true := by
    rw [hi, Bool.or_false]
    exact decide_eq_true (by omega)
  refine wpAny_binaryOp_repeat_ref (T := "tuple") (U := "int") (by decide) ⟨_, ho, rfl⟩ (fun s' => typeIs_int s' k t) noFill_tuple_mul F.fills_int_mul F.slot_int_rmul repeat_tuple F.slot_int_index.lookup
    (call_meets F.slot_int_rmul (typeIs_int s k t) F.entry_int_rmul (F.args_int_rmul_2 _ _) (int_rmul_tuple k t l its.toArray n dd sl)
      ⟨ho, rfl, ⟨_, ho, rfl⟩, call_meets F.slot_tuple_mul ⟨_, ho, rfl⟩ F.entry_tuple_mul (F.args_tuple_mul_2 _ _) (tuple_mul0 l its.toArray n dd sl k t c0 c1 c2) ⟨ho, ?_⟩⟩)
  refine ⟨.ref s.heap.objs.size, _, I.laid (t' := s.toks) (o := .tup []) (fun b ob q => Heap.get?_push_of_some _ q) (Nat.le_refl _) ?_, rfl, q _ (I.hok.fresh (Nat.le_refl _))⟩
  exact ⟨by simp, [], .nil, IsTup.new _ _⟩
def opMul : D → D → Tree D
  | .int i, .int j => if mulB i j = true then leaf (.int (i * j)) else fail
  | .lst xs, .int k => if repOk xs.length k = true then leaf (.lst (List.replicate k.toNat xs).flatten) else fail
  | .tup xs, .int k => if k = 1 then leaf (.tup xs) else if (!xs.isEmpty && decide (2 ≤ k) && decide (k ≤ 1000) && decide (xs.length ≤ 1000)) = true then leaf (.tup (List.replicate k.toNat xs).flatten) else if (!xs.isEmpty && decide (k ≤ 0) && decide (-(2 ^ 62) ≤ k)) = true then leaf (.tup []) else fail
  | _, _ => fail
def rMulAll (K : PySem.W.Frag) : R2 := fun x y H Q => rI CMulW (fun i j => .int (i * j)) x y H Q ∨ rRep x y H Q ∨ rRepT1 K x y H Q ∨ rRepT K x y H Q ∨ rRepT0 K x y H Q
theorem or_mul : OpR X (binaryOp .Mult) (rMulAll X.K) := OpR.or op_mulW (OpR.or op_rep (OpR.or op_repT1 (OpR.or op_repT op_repT0)))
theorem o2_mul : Op2 K (rMulAll K) opMul := by
  intro F H v u d e Q g p1 p2 q
  unfold opMul at q
  split at q
  · split at q
    · rename_i h
      cases p1.int; cases p2.int
      exact .inl ⟨_, _, rfl, rfl, (show _ < _ from of_decide_eq_true h), q _ F H (Ext.refl g) (.int _)⟩
    · exact q.elim
  · split at q
    · rename_i h
      unfold repOk at h
      simp only [Bool.and_eq_true, decide_eq_true_eq] at h
      obtain ⟨a, xs, rfl, h1, r1⟩ := p1.lst g
      cases p2.int
      refine .inr (.inl ⟨a, _, xs, rfl, rfl, h1, h.1.1, h.1.2, by rw [r1.length]; exact h.2, fun p hp => ?_⟩)
      exact q _ (F.add p (.lst _)) _ (Ext.addNew g hp) (.lst upd_same ((r1.rep _).mono (Fz.le_add (g.free hp).1)))
    · exact q.elim
  · split at q
    · rename_i h
      subst h
      obtain ⟨a, xs, rfl, h1, r1⟩ := p1.tup g
      cases p2.int
      refine .inr (.inr (.inl ⟨a, xs, rfl, rfl, h1, ?_⟩))
      cases p1 with | rep r => exact q _ F H (Ext.refl g) r
    · split at q
      · rename_i h
        simp only [Bool.and_eq_true, decide_eq_true_eq, Bool.not_eq_true'] at h
        obtain ⟨a, xs, rfl, h1, r1⟩ := p1.tup g
        cases p2.int
        refine .inr (.inr (.inr (.inl ⟨a, _, xs, rfl, rfl, h1, fun z => ?_, h.1.1.2, h.1.2, by rw [r1.length]; exact h.2, fun p hp => ?_⟩)))
        · subst z; cases r1; simp at h
        · exact q _ (F.add p (.tup _)) _ (Ext.addNew g hp) (.tup (.of upd_same) ((r1.rep _).mono (Fz.le_add (g.free hp).1)))
      · split at q
        · rename_i h
          simp only [Bool.and_eq_true, decide_eq_true_eq, Bool.not_eq_true'] at h
          obtain ⟨a, xs, rfl, h1, r1⟩ := p1.tup g
          cases p2.int
          refine .inr (.inr (.inr (.inr ⟨a, _, xs, rfl, rfl, h1, fun z => ?_, h.1.2, h.2, fun p hp => ?_⟩)))
          · subst z; cases r1; simp at h
          · exact q _ (F.add p (.tup _)) _ (Ext.addNew g hp) (.tup (.of upd_same) .nil)
        · exact q.elim
  · exact q.elim
/-- [..] * n as a list of one's own -/
def opRepL : D → D → Tree (List D)
  | .lst xs, .int k => if repOk xs.length k = true then leaf (List.replicate k.toNat xs).flatten else fail
  | _, _ => fail
theorem sl_rep {a b : Expr} {ma mb : En → Tree D} {pos : Pos} (ha : SP X a ma) (hb : SP X b mb) : SL X (.BinOp a .Mult b pos) (fun E => (ma E).bind fun d => (mb E).bind fun e => opRepL d e) := by
  refine ⟨PE.weak (pe_op op_rep ha.pe hb.pe) fun σ H Q ⟨B, F, E, g, rl, q⟩ => ?_⟩
  refine ⟨B, F, E, g, rl, Tree.all_mono (fun d k v F1 H1 e1 p1 => ?_) (Tree.all_bind.mp q)⟩
  refine ⟨B, F1, E, e1.good, rl.ext e1, Tree.all_mono (fun e k u F2 H2 e2 p2 => ?_) (Tree.all_bind.mp k)⟩
  have p1 := p1.ext e2
  unfold opRepL at k
  split at k
  · split at k
    · rename_i h
      unfold repOk at h
      simp only [Bool.and_eq_true, decide_eq_true_eq] at h
      obtain ⟨a, xs, rfl, h1, r1⟩ := p1.lst e2.good
      cases p2.int
      refine ⟨a, _, xs, rfl, rfl, h1, h.1.1, h.1.2, by rw [r1.length]; exact h.2, fun p hp => ?_⟩
      have f := e2.good.free hp
      exact k p _ F2 _ ((e1.trans e2).trans (Ext.new e2.good hp)) upd_same f.1 f.2 (ext_none g (e1.trans e2) hp) (r1.rep _)
    · exact k.elim
  · exact k.elim

/-! ### comparisons of ints -/
def cmpI (p : Int → Int → Bool) : D → D → Tree Bool
  | .int i, .int j => leaf (p i j)
  | _, _ => fail
theorem c2_int {p : Int → Int → Bool} : Cmp2 K (rI0 fun i j => .bl (p i j)) (cmpI p) := by
  intro F H v u d e Q g p1 p2 q
  unfold cmpI at q
  split at q
  · cases p1.int; cases p2.int
    exact ⟨_, _, rfl, rfl, q⟩
  · exact q.elim
def cLt : D → D → Tree Bool := cmpI fun i j => decide (i < j)
def cLe : D → D → Tree Bool := cmpI fun i j => decide (i ≤ j)
def cGt : D → D → Tree Bool := cmpI fun i j => decide (j < i)
def cGe : D → D → Tree Bool := cmpI fun i j => decide (j ≤ i)
def cIsN : D → D → Tree Bool
  | .pot, .non => fail
  | .ty _, .non => fail
  | .scr _, .non => fail
  | .non, .non => leaf true
  | _, .non => leaf false
  | _, _ => fail
theorem not_non {F : Fz} {H : Hp} {v : V} {d : D} (h : Pk K F H v d) (hd : d ≠ .non) : decide (v = V.non) = false := decide_eq_false fun z => by
  subst z
  cases h with | rep r => cases r; exact hd rfl
theorem c2_isN : Cmp2 K (fun x y H Q => y = .non ∧ Q (.bl (decide (x = .non))) H) cIsN := by
  intro F H v u d e Q g p1 p2 q
  unfold cIsN at q
  split at q
  · exact q.elim
  · exact q.elim
  · exact q.elim
  · cases p1.non; cases p2.non; exact ⟨rfl, q⟩
  · rename_i h1 h2 h3 h4
    cases p2.non
    refine ⟨rfl, ?_⟩
    rw [not_non p1 (by intro z; exact h4 z)]
    exact q
  · exact q.elim
def cNotN : D → D → Tree Bool := fun d e => (cIsN d e).bind fun b => leaf (!b)
theorem c2_notN : Cmp2 K (fun x y H Q => y = .non ∧ Q (.bl (!decide (x = .non))) H) cNotN := by
  intro F H v u d e Q g p1 p2 q
  exact c2_isN F H v u d e (fun z H => ∃ b, z = .bl b ∧ Q (.bl (!b)) H) g p1 p2 (Tree.all_mono (fun b h => ⟨b, rfl, h⟩) (Tree.all_bind.mp q)) |> fun ⟨h1, b, h2, h3⟩ => ⟨h1, by cases h2; exact h3⟩

/-! ### == of data -/
def toPy : Nat → D → PyData
  | 0, _ => .none
  | n + 1, d => match d with
    | .non => .none
    | .bl b => .bool b
    | .int i => .int i
    | .str x => .str x
    | .tup xs => .tuple (xs.map (toPy n))
    | .lst xs => .list (xs.map (toPy n))
    | _ => .none
def fitD : Nat → D → Bool
  | 0, _ => false
  | n + 1, d => match d with
    | .non => true
    | .bl _ => true
    | .int _ => true
    | .str x => PyData.strOk x
    | .tup xs => xs.all (fitD n)
    | .lst xs => xs.all (fitD n)
    | _ => false
def allEq (p : D → D → Bool) : List D → List D → Bool
  | [], [] => true
  | x :: xs, y :: ys => p x y && allEq p xs ys
  | _, _ => false
def eqD : Nat → D → D → Bool
  | 0, _, _ => false
  | n + 1, d, e => match d, e with
    | .non, .non => true
    | .bl a, .bl b => a == b
    | .bl a, .int j => (if a then 1 else 0) == j
    | .int i, .bl b => i == (if b then 1 else 0)
    | .int i, .int j => i == j
    | .str x, .str y => x == y
    | .tup xs, .tup ys => allEq (eqD n) xs ys
    | .lst xs, .lst ys => allEq (eqD n) xs ys
    | _, _ => false
end
end R

set_option Elab.async false
set_option linter.all false
set_option maxRecDepth 100000
namespace R
open PySem PySem.Spec PyProof.Rows L2
open Tree (leaf fail)
section
variable {X : Cx} {K : PySem.W.Frag}
theorem canLayAll_map {n : Nat} (ih : ∀ d, fitD n d = true → (toPy n d).canLay0 = true) : ∀ xs : List D, xs.all (fitD n) = true → PyData.canLayAll0 (xs.map (toPy n)) = true
  | [], _ => by simp [PyData.canLayAll0]
  | x :: xs, h => by
    rw [List.all_cons, Bool.and_eq_true] at h
    rw [List.map_cons, PyData.canLayAll0, ih x h.1, canLayAll_map ih xs h.2]; rfl
theorem canLay_fit : ∀ (n : Nat) (d : D), fitD n d = true → (toPy n d).canLay0 = true
  | 0, _, h => by cases h
  | n + 1, d, h => by
    cases d with
    | non => simp [toPy, PyData.canLay0]
    | bl b => simp [toPy, PyData.canLay0]
    | int i => simp [toPy, PyData.canLay0]
    | str x => simp only [toPy, PyData.canLay0]; exact h
    | tup xs => simp only [toPy, PyData.canLay0]; exact canLayAll_map (canLay_fit n) xs h
    | lst xs => simp only [toPy, PyData.canLay0]; exact canLayAll_map (canLay_fit n) xs h
    | pot => cases h
    | ty _ => cases h
    | scr _ => cases h
    | dct => cases h
    | fn _ => cases h
    | clo _ _ => cases h
    | inst _ _ => cases h
theorem depthAll_map {n : Nat} (ih : ∀ d, (toPy n d).depth ≤ n) : ∀ xs : List D, PyData.depthAll (xs.map (toPy n)) ≤ n
  | [] => by simp [PyData.depthAll]
  | x :: xs => by
    rw [List.map_cons, PyData.depthAll]
    have := ih x
    have := depthAll_map ih xs
    omega
theorem depth_py : ∀ (n : Nat) (d : D), (toPy n d).depth ≤ n
  | 0, _ => by simp [toPy, PyData.depth]
  | n + 1, d => by
    cases d with
    | tup xs => simp only [toPy, PyData.depth]; have := depthAll_map (depth_py n) xs; omega
    | lst xs => simp only [toPy, PyData.depth]; have := depthAll_map (depth_py n) xs; omega
    | _ => simp [toPy, PyData.depth]
theorem shaped_fit {n : Nat} {d : D} (hn : n ≤ 64) (h : fitD n d = true) : SeqAt.shaped (toPy n d) = true := by
  unfold SeqAt.shaped
  rw [canLay_fit n d h, Bool.true_and, decide_eq_true_eq]
  exact Nat.le_trans (depth_py n d) hn
theorem eqvAll_map {n : Nat} (ih : ∀ d e, fitD n d = true → fitD n e = true → PyData.eqv (toPy n d) (toPy n e) = eqD n d e) : ∀ xs ys : List D, xs.all (fitD n) = true → ys.all (fitD n) = true → PyData.eqvAll (xs.map (toPy n)) (ys.map (toPy n)) = allEq (eqD n) xs ys
  | [], [], _, _ => by simp [PyData.eqvAll, allEq]
  | [], _ :: _, _, _ => by simp [PyData.eqvAll, allEq]
  | _ :: _, [], _, _ => by simp [PyData.eqvAll, allEq]
  | x :: xs, y :: ys, h1, h2 => by
    rw [List.all_cons, Bool.and_eq_true] at h1 h2
    rw [List.map_cons, List.map_cons, PyData.eqvAll, allEq, ih x y h1.1 h2.1, eqvAll_map ih xs ys h1.2 h2.2]
theorem eqv_py : ∀ (n : Nat) (d e : D), fitD n d = true → fitD n e = true → PyData.eqv (toPy n d) (toPy n e) = eqD n d e
  | 0, _, _, h, _ => by cases h
  | n + 1, d, e, h1, h2 => by
    cases d <;> cases e <;> first
      | (cases h1; done)
      | (cases h2; done)
      | (simp only [toPy, PyData.eqv, eqD]; done)
      | (simp only [toPy, PyData.eqv, eqD]; exact eqvAll_map (eqv_py n) _ _ h1 h2)
theorem dpAll_of {n : Nat} {F : Fz} {H : Hp} (ih : ∀ d v, fitD n d = true → Rep K F v d → Dp K H v (toPy n d)) : ∀ (ds : List D) (vs : List V), ds.all (fitD n) = true → Reps K F vs ds → DpAll K H vs (ds.map (toPy n))
  | _, _, _, .nil => .nil
  | d :: ds, _, h, .cons r rs => by
    rw [List.all_cons, Bool.and_eq_true] at h
    exact .cons (ih d _ h.1 r) (dpAll_of ih ds _ h.2 rs)
theorem dp_of {F : Fz} {H : Hp} (g : Good F H) : ∀ (n : Nat) (d : D) (v : V), fitD n d = true → Rep K F v d → Dp K H v (toPy n d)
  | 0, _, _, h, _ => by cases h
  | n + 1, d, v, h, r => by
    cases r with
    | non => exact .non
    | bl b => exact .bl b
    | int i => exact .int i
    | str x => exact .str x
    | tup hs rs => exact .tup (sqT_same g.sub hs.sq) (dpAll_of (dp_of g n) _ _ h rs)
    | lst hs rs => exact .lst (.of (g.sub _ _ hs)) (dpAll_of (dp_of g n) _ _ h rs)
    | pot _ => cases h
    | ty _ => cases h
    | scr _ => cases h
    | dct _ => cases h
    | fn _ => cases h
    | clo _ _ _ _ _ _ _ => cases h
    | inst _ _ _ => cases h
    | inst0 _ => cases h
theorem dpk_of {F : Fz} {H : Hp} (g : Good F H) {n : Nat} {d : D} {v : V} (h : fitD n d = true) (p : Pk K F H v d) : Dp K H v (toPy n d) := by
  cases p with
  | rep r => exact dp_of g n d v h r
  | own hh _ _ rs =>
    cases n with
    | zero => cases h
    | succ n => exact .lst (.of hh) (dpAll_of (dp_of g n) _ _ h rs)
def cEq : D → D → Tree Bool := fun d e => if (fitD 12 d && fitD 12 e) = true then leaf (eqD 12 d e) else fail
def cNe : D → D → Tree Bool := fun d e => if (fitD 12 d && fitD 12 e) = true then leaf (!eqD 12 d e) else fail
theorem c2_eq : Cmp2 K (rEqD K) cEq := by
  intro F H v u d e Q g p1 p2 q
  unfold cEq at q
  split at q
  · rename_i h
    rw [Bool.and_eq_true] at h
    refine ⟨_, _, dpk_of g h.1 p1, dpk_of g h.2 p2, shaped_fit (by decide) h.1, shaped_fit (by decide) h.2, ?_⟩
    rw [eqv_py 12 d e h.1 h.2]; exact q
  · exact q.elim
theorem c2_ne : Cmp2 K (rNeD K) cNe := by
  intro F H v u d e Q g p1 p2 q
  unfold cNe at q
  split at q
  · rename_i h
    rw [Bool.and_eq_true] at h
    refine ⟨_, _, dpk_of g h.1 p1, dpk_of g h.2 p2, shaped_fit (by decide) h.1, shaped_fit (by decide) h.2, ?_⟩
    rw [eqv_py 12 d e h.1 h.2]; exact q
  · exact q.elim
/-! ### in -/
def flatD : D → Bool
  | .non => true
  | .bl _ => true
  | .int _ => true
  | .str _ => true
  | _ => false
theorem flat_of {F : Fz} {v : V} {d : D} (h : flatD d = true) (r : Rep K F v d) : flatV v = true := by
  cases r <;> first | rfl | cases h
theorem eqV_of {F : Fz} {v w : V} {d e : D} (hd : flatD d = true) (he : flatD e = true) (r : Rep K F v d) (s : Rep K F w e) : eqV v w = eqD 1 d e := by
  cases r <;> cases s <;> first | rfl | (cases hd; done) | (cases he; done)
theorem flats_of {F : Fz} : ∀ {vs : List V} {ds : List D}, ds.all flatD = true → Reps K F vs ds → vs.all flatV = true
  | _, _, _, .nil => rfl
  | _, _, h, .cons r rs => by
    rw [List.all_cons, Bool.and_eq_true] at h ⊢
    exact ⟨flat_of h.1 r, flats_of h.2 rs⟩
theorem inV_of {F : Fz} {v : V} {d : D} (hd : flatD d = true) (r : Rep K F v d) : ∀ {vs : List V} {ds : List D}, ds.all flatD = true → Reps K F vs ds → inV v vs = ds.any fun e => eqD 1 e d
  | _, _, _, .nil => rfl
  | _, _, h, .cons q qs => by
    rw [List.all_cons, Bool.and_eq_true] at h
    unfold inV
    rw [List.any_cons, List.any_cons, eqV_of h.1 hd q r]
    exact congrArg _ (inV_of hd r h.2 qs)
theorem Pk.flat {F : Fz} {H : Hp} {v : V} {d : D} (h : flatD d = true) (p : Pk K F H v d) : Rep K F v d := by
  cases p with
  | rep r => exact r
  | own _ _ _ _ => cases h
def inB (d : D) (ds : List D) : Tree Bool := if (flatD d && ds.all flatD) = true then leaf (ds.any fun e => eqD 1 e d) else fail
def cIn (neg : Bool) : D → D → Tree Bool
  | d, .lst ds => (inB d ds).bind fun b => leaf (if neg then !b else b)
  | d, .tup ds => (inB d ds).bind fun b => leaf (if neg then !b else b)
  | _, _ => fail
theorem c2_in (neg : Bool) : Cmp2 K (rIn K neg) (cIn neg) := by
  intro F H v u d e Q g p1 p2 q
  have go : ∀ {ds : List D} {a : Addr} {xs : List V}, (SqL K H a xs ∨ SqT K H a xs) → Reps K F xs ds → ((inB d ds).bind fun b => leaf (if neg then !b else b)).all (fun b => Q (.bl b) H) → rIn K neg v (.ref a) H Q := fun {ds a xs} hs rs q => by
    have q := Tree.all_bind.mp q
    unfold inB at q
    by_cases h : (flatD d && ds.all flatD) = true
    · rw [if_pos h] at q
      rw [Bool.and_eq_true] at h
      refine ⟨a, xs, rfl, hs, flat_of h.1 (p1.flat h.1), flats_of h.2 rs, ?_⟩
      rw [inV_of h.1 (p1.flat h.1) h.2 rs]
      exact q
    · rw [if_neg h] at q
      exact False.elim q
  unfold cIn at q
  split at q
  · obtain ⟨a, xs, rfl, h1, r1⟩ := p2.lst g
    exact go (.inl (.of h1)) r1 q
  · obtain ⟨a, xs, rfl, h1, r1⟩ := p2.tup g
    exact go (.inr h1) r1 q
  · exact q.elim

/-! ### items -/
def ixO {α : Type} (xs : List α) (i : Int) (k : α → Tree D) : Tree D := match atI xs i with
  | some d => k d
  | none => fail
def opIx : D → D → Tree D
  | .lst xs, .int i => ixO xs i leaf
  | .tup xs, .int i => ixO xs i leaf
  | .scr ns, .int i => ixO ns i fun k => leaf (.int k)
  | _, _ => fail
theorem atI_rep {F : Fz} {vs : List V} {ds : List D} {i : Int} {d : D} (r : Reps K F vs ds) (h : atI ds i = some d) : ∃ v, atI vs i = some v ∧ Rep K F v d := by
  unfold atI at h ⊢
  rw [← r.length] at h
  cases e : ixN vs.length i with
  | none => rw [e] at h; cases h
  | some j =>
    rw [e] at h
    obtain ⟨v, h1, h2⟩ := r.get' (show ds[j]? = some d from h)
    exact ⟨v, h1, h2⟩
theorem atI_map {α β : Type} (f : α → β) (xs : List α) (i : Int) : atI (xs.map f) i = (atI xs i).map f := by
  unfold atI
  rw [List.length_map]
  cases ixN xs.length i with
  | none => rfl
  | some j => show (xs.map f)[j]? = _; rw [List.getElem?_map]; rfl
theorem o2_ix : Op2 K (rIx K) opIx := by
  intro F H v u d e Q g p1 p2 q
  unfold opIx at q
  split at q
  · obtain ⟨a, xs, rfl, h1, r1⟩ := p1.lst g
    cases p2.int
    unfold ixO at q
    split at q
    · rename_i x hx
      obtain ⟨w, hw, rw'⟩ := atI_rep r1 hx
      exact .inl ⟨a, xs, _, w, rfl, rfl, .of h1, hw, q w F H (Ext.refl g) rw'⟩
    · exact q.elim
  · obtain ⟨a, xs, rfl, h1, r1⟩ := p1.tup g
    cases p2.int
    unfold ixO at q
    split at q
    · rename_i x hx
      obtain ⟨w, hw, rw'⟩ := atI_rep r1 hx
      exact .inr (.inl ⟨a, xs, _, w, rfl, rfl, h1, hw, q w F H (Ext.refl g) rw'⟩)
    · exact q.elim
  · obtain ⟨a, rfl, h1⟩ := p1.scr g
    cases p2.int
    unfold ixO at q
    split at q
    · rename_i x hx
      refine .inl ⟨a, _, _, .int x, rfl, rfl, h1, ?_, q _ F H (Ext.refl g) (.int x)⟩
      rw [atI_map, hx]; rfl
    · exact q.elim
  · exact q.elim

/-! ### slices -/
def cutD (xs : List D) (lo hi : Option Int) : List D := (xs.drop (HT.sIx xs.length 0 lo)).take (HT.sIx xs.length xs.length hi - HT.sIx xs.length 0 lo)
theorem cut_rep {F : Fz} {vs : List V} {ds : List D} (r : Reps K F vs ds) (lo hi : Option Int) : Reps K F (cutV vs lo hi) (cutD ds lo hi) := by
  unfold cutV cutD
  rw [r.length]
  exact (r.drop _).take _
def opCut (lo hi : Option Int) : D → Tree D
  | .lst xs => leaf (.lst (cutD xs lo hi))
  | .tup xs => leaf (.tup (cutD xs lo hi))
  | _ => fail
def rCut (K : PySem.W.Frag) : V → Option Int → Option Int → Hp → VK → Prop := fun x lo hi H Q => rSlL K x lo hi H Q ∨ rSlA K x lo hi H Q
theorem sl_cut : SlR X (rCut X.K) := SlR.or sl_list sl_tupA
structure SO (X : Cx) (e : Option Expr) (m : En → Tree (Option Int)) : Prop where
  po : ∃ t, PO X e t ∧ ∀ σ H Q, (∃ B F E, Good F H ∧ RelE X.K B F H σ E ∧ (m E).all fun o => ∀ F' H', Ext F H F' H' → Q o H') → t σ H Q
theorem so_none : SO X none (fun _ => leaf none) := ⟨_, po_none, fun σ H Q ⟨B, F, E, g, r, q⟩ => q F H (Ext.refl g)⟩
def mPart (m : En → Tree D) : En → Tree (Option Int) := fun E => (m E).bind fun d => match d with
  | .int i => leaf (some i)
  | _ => fail
theorem so_some {e : Expr} {m : En → Tree D} (h : SP X e m) : SO X (some e) (mPart m) := ⟨_, po_some h.pe, fun σ H Q ⟨B, F, E, g, r, q⟩ => by
  refine ⟨B, F, E, g, r, Tree.all_mono (fun d k v F' H' e p => ?_) (Tree.all_bind.mp q)⟩
  cases d with
  | int i => exact ⟨i, p.int, k F' H' e⟩
  | _ => exact False.elim k⟩
def mCut (m : En → Tree D) (ml mh : En → Tree (Option Int)) : En → Tree D := fun E => (m E).bind fun d => (ml E).bind fun lo => (mh E).bind fun hi => opCut lo hi d
theorem cut_all {F : Fz} {H : Hp} {v : V} {d : D} {lo hi : Option Int} {Q : VK} (g : Good F H) (p : Pk K F H v d) (q : (opCut lo hi d).all fun d => ∀ v F' H', Ext F H F' H' → Rep K F' v d → Q v H') : rCut K v lo hi H Q := by
  unfold opCut at q
  split at q
  · obtain ⟨a, xs, rfl, h1, r1⟩ := p.lst g
    refine .inl ⟨a, xs, rfl, .of h1, fun p hp => ?_⟩
    exact q _ (F.add p (.lst _)) _ (Ext.addNew g hp) (.lst upd_same ((cut_rep r1 lo hi).mono (Fz.le_add (g.free hp).1)))
  · obtain ⟨a, xs, rfl, h1, r1⟩ := p.tup g
    have n1 : ∀ {c : Addr} {ds : List D}, Pk K F H (.ref c) (.tup ds) → Rep K F (.ref c) (.tup ds) := fun {c ds} h => by cases h with | rep r => exact r
    refine .inr ⟨a, xs, rfl, h1, fun w => ?_, fun w p hp => ?_⟩
    · have e : ∀ ds : List D, xs.length = ds.length → cutD ds lo hi = ds := fun ds hl => by
        unfold cutD
        rw [← hl, w.1, w.2, Nat.sub_zero, List.drop_zero, hl, List.take_length]
      rw [e _ r1.length] at q
      exact q _ F H (Ext.refl g) (n1 p)
    · exact q _ (F.add p (.tup _)) _ (Ext.addNew g hp) (.tup (.of upd_same) ((cut_rep r1 lo hi).mono (Fz.le_add (g.free hp).1)))
  · exact q.elim
theorem se_cut {e : Expr} {lo hi : Option Expr} {m : En → Tree D} {ml mh : En → Tree (Option Int)} {p2 pos : Pos} (he : SP X e m) (hl : SO X lo ml) (hh : SO X hi mh) : SE X (.Subscript e (.Slice lo hi none p2) pos) (mCut m ml mh) := by
  obtain ⟨tl, l1, l2⟩ := hl.po
  obtain ⟨th, h1, h2⟩ := hh.po
  refine ⟨PE.weak (pe_slice sl_cut he.pe l1 h1) fun σ H Q ⟨B, F, E, g, rl, q⟩ => ?_⟩
  refine ⟨B, F, E, g, rl, Tree.all_mono (fun d k v F1 H1 e1 p1 => ?_) (Tree.all_bind.mp q)⟩
  refine l2 _ _ _ ⟨B, F1, E, e1.good, rl.ext e1, Tree.all_mono (fun o k F2 H2 e2 => ?_) (Tree.all_bind.mp k)⟩
  refine h2 _ _ _ ⟨B, F2, E, e2.good, (rl.ext e1).ext e2, Tree.all_mono (fun o' k F3 H3 e3 => ?_) (Tree.all_bind.mp k)⟩
  exact cut_all e3.good ((p1.ext e2).ext e3) (Tree.all_mono (fun z kz w F4 H4 e4 rz => kz w F4 H4 (((e1.trans e2).trans e3).trans e4) rz) k)
end
end R

set_option Elab.async false
set_option linter.all false
set_option maxRecDepth 100000
namespace R
open PySem PySem.Spec PyProof.Rows L2
open Tree (leaf fail)
section
variable {X : Cx} {K : PySem.W.Frag} {x : Str} {p pos : Pos} {e : Expr} {es : List Expr} {ma : En → Tree (List D)} {f : List D → Tree D} {r : List V → Hp → VK → Prop} {id T : String}
theorem se_bi (hc : CallR X (.builtin id) r) (hf : Fn1 X.K r f) (hg : Gl X x) (hm : X.mg x = none) (hv : bootBuiltins x = some (.builtin id)) (ha : SPA X (e :: es) ma) (hn : x ≠ "__name__" := by decide) (hdb : (x == ("__debug__" : Str)) = false := by decide)
    (he : starEach (e :: es) X.env = (false, eval e X.env) :: starEach es X.env := by rfl) (hpl : (backTo pos (starEach es X.env)).any (·.1) = false := by rfl) : SE X (.Call (.Name x p) (e :: es) [] pos) (mA f ma) :=
  ⟨PE.weak (pe_callB hc hg hm hv ha.pa hn hdb he hpl) fun σ H Q h => callA hf h⟩
theorem se_bt (hc : CallR X (.type T) r) (hf : Fn1 X.K r f) (hg : Gl X x) (hm : X.mg x = none) (hv : bootBuiltins x = some (.type T)) (ha : SPA X (e :: es) ma) (hn : x ≠ "__name__" := by decide) (hdb : (x == ("__debug__" : Str)) = false := by decide)
    (he : starEach (e :: es) X.env = (false, eval e X.env) :: starEach es X.env := by rfl) (hpl : (backTo pos (starEach es X.env)).any (·.1) = false := by rfl) : SE X (.Call (.Name x p) (e :: es) [] pos) (mA f ma) :=
  ⟨PE.weak (pe_callTy hc hg hm hv ha.pa hn hdb he hpl) fun σ H Q h => callA hf h⟩
theorem CallR.or' {f : Value} {r r' : List V → Hp → VK → Prop} (h : CallR X f r) (h' : CallR X f r') : CallR X f (fun xs H Q => r xs H Q ∨ r' xs H Q) := CallR.or h h'
theorem pks1 {F : Fz} {H : Hp} {vs : List V} {d : D} (h : Pks K F H vs [d]) : ∃ v, vs = [v] ∧ Pk K F H v d := by
  cases h with | cons a b => cases b; exact ⟨_, rfl, a⟩
theorem pks2 {F : Fz} {H : Hp} {vs : List V} {d e : D} (h : Pks K F H vs [d, e]) : ∃ v u, vs = [v, u] ∧ Pk K F H v d ∧ Pk K F H u e := by
  cases h with | cons a b => cases b with | cons c b => cases b; exact ⟨_, _, rfl, a, c⟩

/-! ### len -/
def fLen : List D → Tree D
  | [.lst xs] => leaf (.int xs.length)
  | [.tup xs] => leaf (.int xs.length)
  | [.scr xs] => leaf (.int xs.length)
  | [.str x] => lineOk x.length (leaf (.int x.length))
  | _ => fail
def rLenS (K : PySem.W.Frag) : List V → Hp → VK → Prop := fun xs H Q => ∃ p ys, xs = [.ref p] ∧ (SqL K H p ys ∨ SqT K H p ys) ∧ Q (.int ys.length) H
def rLenT : List V → Hp → VK → Prop := fun xs H Q => ∃ z, xs = [.str z] ∧ z.length ≤ sizeLine ∧ Q (.int z.length) H
theorem cr_len : CallR X (.builtin "len") (fun xs H Q => rLenS X.K xs H Q ∨ rLenT xs H Q) := CallR.or call_len_seq call_len_str
theorem f1_len : Fn1 K (fun xs H Q => rLenS K xs H Q ∨ rLenT xs H Q) fLen := by
  intro F H vs ds Q g p q
  unfold fLen at q
  split at q
  · obtain ⟨v, rfl, pk⟩ := pks1 p
    obtain ⟨a, xs, rfl, h1, r1⟩ := pk.lst g
    exact .inl ⟨a, xs, rfl, .inl (.of h1), q _ F H (Ext.refl g) (by rw [r1.length]; exact .int _)⟩
  · obtain ⟨v, rfl, pk⟩ := pks1 p
    obtain ⟨a, xs, rfl, h1, r1⟩ := pk.tup g
    exact .inl ⟨a, xs, rfl, .inr h1, q _ F H (Ext.refl g) (by rw [r1.length]; exact .int _)⟩
  · obtain ⟨v, rfl, pk⟩ := pks1 p
    obtain ⟨a, rfl, h1⟩ := pk.scr g
    exact .inl ⟨a, _, rfl, .inl h1, q _ F H (Ext.refl g) (by rw [List.length_map]; exact .int _)⟩
  · obtain ⟨v, rfl, pk⟩ := pks1 p
    obtain ⟨hl, q⟩ := lineOk_all q
    cases pk.str
    exact .inr ⟨_, rfl, hl, q _ F H (Ext.refl g) (.int _)⟩
  · exact q.elim
/-! ### numbers -/
def fAbs : List D → Tree D
  | [.int i] => leaf (.int (if i < 0 then -i else i))
  | _ => fail
theorem f1_abs : Fn1 K (fun xs H Q => ∃ i, xs = [.int i] ∧ Q (.int (if i < 0 then -i else i)) H) fAbs := by
  intro F H vs ds Q g p q
  unfold fAbs at q
  split at q
  · obtain ⟨v, rfl, pk⟩ := pks1 p
    cases pk.int
    exact ⟨_, rfl, q _ F H (Ext.refl g) (.int _)⟩
  · exact q.elim
def fMax2 : List D → Tree D
  | [.int i, .int j] => leaf (.int (if j > i then j else i))
  | _ => fail
theorem f1_max2 : Fn1 K (fun xs H Q => ∃ i j, xs = [.int i, .int j] ∧ Q (.int (if j > i then j else i)) H) fMax2 := by
  intro F H vs ds Q g p q
  unfold fMax2 at q
  split at q
  · obtain ⟨v, u, rfl, p1, p2⟩ := pks2 p
    cases p1.int; cases p2.int
    exact ⟨_, _, rfl, q _ F H (Ext.refl g) (.int _)⟩
  · exact q.elim
def fMin2 : List D → Tree D
  | [.int i, .int j] => leaf (.int (if j < i then j else i))
  | _ => fail
theorem f1_min2 : Fn1 K (fun xs H Q => ∃ i j, xs = [.int i, .int j] ∧ Q (.int (if j < i then j else i)) H) fMin2 := by
  intro F H vs ds Q g p q
  unfold fMin2 at q
  split at q
  · obtain ⟨v, u, rfl, p1, p2⟩ := pks2 p
    cases p1.int; cases p2.int
    exact ⟨_, _, rfl, q _ F H (Ext.refl g) (.int _)⟩
  · exact q.elim
def fInt : List D → Tree D
  | [.int i] => leaf (.int i)
  | [.bl k] => leaf (.int (if k then 1 else 0))
  | _ => fail
theorem f1_int : Fn1 K (fun xs H Q => (∃ i, xs = [.int i] ∧ Q (.int i) H) ∨ ∃ k, xs = [.bl k] ∧ Q (.int (if k then 1 else 0)) H) fInt := by
  intro F H vs ds Q g p q
  unfold fInt at q
  split at q
  · obtain ⟨v, rfl, pk⟩ := pks1 p
    cases pk.int
    exact .inl ⟨_, rfl, q _ F H (Ext.refl g) (.int _)⟩
  · obtain ⟨v, rfl, pk⟩ := pks1 p
    cases pk.bl
    exact .inr ⟨_, rfl, q _ F H (Ext.refl g) (.int _)⟩
  · exact q.elim
/-! ### sums, all, any over lists -/
def intsD : List D → Option (List Int)
  | [] => some []
  | .int i :: ds => (intsD ds).map (i :: ·)
  | _ => none
theorem ints_of {F : Fz} : ∀ {ds : List D} {vs : List V} {ns : List Int}, intsD ds = some ns → Reps K F vs ds → vs = ns.map V.int
  | [], _, ns, h, .nil => by cases h; rfl
  | d :: ds, _, ns, h, .cons r rs => by
    cases d with
    | int i =>
      have h : (intsD ds).map (i :: ·) = some ns := h
      cases e : intsD ds with
      | none => rw [e] at h; cases h
      | some ms =>
        rw [e] at h
        cases h
        cases r
        rw [List.map_cons, ints_of e rs]
    | _ => cases h
def blsD : List D → Option (List Bool)
  | [] => some []
  | .bl i :: ds => (blsD ds).map (i :: ·)
  | _ => none
theorem bls_of {F : Fz} : ∀ {ds : List D} {vs : List V} {ns : List Bool}, blsD ds = some ns → Reps K F vs ds → vs = ns.map V.bl
  | [], _, ns, h, .nil => by cases h; rfl
  | d :: ds, _, ns, h, .cons r rs => by
    cases d with
    | bl i =>
      have h : (blsD ds).map (i :: ·) = some ns := h
      cases e : blsD ds with
      | none => rw [e] at h; cases h
      | some ms =>
        rw [e] at h
        cases h
        cases r
        rw [List.map_cons, bls_of e rs]
    | _ => cases h
def withO {α : Type} (o : Option α) (k : α → Tree D) : Tree D := match o with
  | some a => k a
  | none => fail
def fSum : List D → Tree D
  | [.lst ds] => withO (intsD ds) fun ns => leaf (.int ns.sum)
  | [.scr ns] => leaf (.int ns.sum)
  | _ => fail
theorem f1_sum : Fn1 K (rSum K) fSum := by
  intro F H vs ds Q g p q
  unfold fSum at q
  split at q
  · obtain ⟨v, rfl, pk⟩ := pks1 p
    obtain ⟨a, xs, rfl, h1, r1⟩ := pk.lst g
    unfold withO at q
    split at q
    · rename_i ns hn
      have e := ints_of hn r1
      subst e
      exact ⟨a, ns, rfl, .of h1, q _ F H (Ext.refl g) (.int _)⟩
    · exact q.elim
  · obtain ⟨v, rfl, pk⟩ := pks1 p
    obtain ⟨a, rfl, h1⟩ := pk.scr g
    exact ⟨a, _, rfl, h1, q _ F H (Ext.refl g) (.int _)⟩
  · exact q.elim
def fAll : List D → Tree D
  | [.lst ds] => withO (blsD ds) fun bs => leaf (.bl (bs.all fun b => b))
  | _ => fail
theorem f1_all : Fn1 K (rAll K) fAll := by
  intro F H vs ds Q g p q
  unfold fAll at q
  split at q
  · obtain ⟨v, rfl, pk⟩ := pks1 p
    obtain ⟨a, xs, rfl, h1, r1⟩ := pk.lst g
    unfold withO at q
    split at q
    · rename_i ns hn
      have e := bls_of hn r1
      subst e
      exact ⟨a, ns, rfl, .of h1, q _ F H (Ext.refl g) (.bl _)⟩
    · exact q.elim
  · exact q.elim
def fAny : List D → Tree D
  | [.lst ds] => withO (blsD ds) fun bs => leaf (.bl (bs.any fun b => b))
  | _ => fail
theorem f1_any : Fn1 K (rAny K) fAny := by
  intro F H vs ds Q g p q
  unfold fAny at q
  split at q
  · obtain ⟨v, rfl, pk⟩ := pks1 p
    obtain ⟨a, xs, rfl, h1, r1⟩ := pk.lst g
    unfold withO at q
    split at q
    · rename_i ns hn
      have e := bls_of hn r1
      subst e
      exact ⟨a, ns, rfl, .of h1, q _ F H (Ext.refl g) (.bl _)⟩
    · exact q.elim
  · exact q.elim
/-! ### tuple(x), list(x) -/
def fTuple : List D → Tree D
  | [.lst ds] => leaf (.tup ds)
  | [.tup ds] => leaf (.tup ds)
  | _ => fail
theorem f1_tuple : Fn1 K (fun xs H Q => ∃ p ys, xs = [.ref p] ∧ ((SqL K H p ys ∧ ∀ l, H l = none → Q (.ref l) (upd H l (.tup ys))) ∨ (SqT K H p ys ∧ Q (.ref p) H))) fTuple := by
  intro F H vs ds Q g p q
  unfold fTuple at q
  split at q
  · obtain ⟨v, rfl, pk⟩ := pks1 p
    obtain ⟨a, xs, rfl, h1, r1⟩ := pk.lst g
    refine ⟨a, xs, rfl, .inl ⟨.of h1, fun l hl => ?_⟩⟩
    exact q _ (F.add l (.tup xs)) _ (Ext.addNew g hl) (.tup (.of upd_same) (r1.mono (Fz.le_add (g.free hl).1)))
  · obtain ⟨v, rfl, pk⟩ := pks1 p
    obtain ⟨a, xs, rfl, h1, r1⟩ := pk.tup g
    refine ⟨a, xs, rfl, .inr ⟨h1, ?_⟩⟩
    cases pk with | rep r => exact q _ F H (Ext.refl g) r
  · exact q.elim
def fList : D → Tree (List D)
  | .lst ds => leaf ds
  | .tup ds => leaf ds
  | _ => fail
theorem sl_list {m : En → Tree D} (hg : Gl X "list") (hm : X.mg "list" = none) (ha : SP X e m) (he : starEach (e :: []) X.env = (false, eval e X.env) :: starEach [] X.env := by rfl) : SL X (.Call (.Name "list" p) [e] [] pos) (fun E => (m E).bind fList) := by
  refine ⟨PE.weak (pe_callTy call_list_of hg hm (by decide +kernel) (pa_cons ha.pe pa_nil he) (by decide) (by decide) he (by rfl)) fun σ H Q ⟨B, F, E, g, rl, q⟩ => ?_⟩
  refine ⟨B, F, E, g, rl, Tree.all_mono (fun d k v F1 H1 e1 p1 => ?_) (Tree.all_bind.mp q)⟩
  show ∃ p ys, [v] = [.ref p] ∧ (SqL X.K H1 p ys ∨ SqT X.K H1 p ys) ∧ ∀ l, H1 l = none → Q (.ref l) (upd H1 l (.lst ys))
  have go : ∀ {xs : List V} {ds : List D}, Reps X.K F1 xs ds → ((leaf ds : Tree (List D)).all fun ds => ∀ a xs F' H', Ext F H F' H' → H' a = some (.lst xs) → F'.P a = none → ¬ F'.T a → NT H a → Reps X.K F' xs ds → Q (.ref a) H') → ∀ l, H1 l = none → Q (.ref l) (upd H1 l (.lst xs)) := fun {xs ds} r k l hl => by
    have f := e1.good.free hl
    exact k l xs F1 _ (e1.trans (Ext.new e1.good hl)) upd_same f.1 f.2 (ext_none g e1 hl) r
  unfold fList at k
  split at k
  · obtain ⟨a, xs, rfl, h1, r1⟩ := p1.lst e1.good
    exact ⟨a, xs, rfl, .inl (.of h1), go r1 k⟩
  · obtain ⟨a, xs, rfl, h1, r1⟩ := p1.tup e1.good
    exact ⟨a, xs, rfl, .inr h1, go r1 k⟩
  · exact k.elim
/-! ### isinstance -/
def tyOf : D → Option String
  | .non => some "NoneType"
  | .bl _ => some "bool"
  | .int _ => some "int"
  | .str _ => some "str"
  | .lst _ => some "list"
  | .tup _ => some "tuple"
  | .dct => some "dict"
  | _ => none
def instB (t c : String) : Bool := t == c || (t == "bool" && c == "int")
def knownT : List String := ["NoneType", "bool", "int", "str", "list", "tuple", "dict"]
def knownC : List String := ["bool", "int", "str", "list", "tuple", "dict"]
theorem kit_all : (knownT.all fun t => knownC.all fun c => kitB t c == some (instB t c)) = true := by decide +kernel
theorem kit_known {t c : String} (ht : knownT.contains t = true) (hc : knownC.contains c = true) : PySem.W.kitOne K (.type t) (.type c) = some (instB t c) := by
  have h := List.all_eq_true.mp (List.all_eq_true.mp kit_all t (List.contains_iff_mem.mp ht)) c (List.contains_iff_mem.mp hc)
  exact kit_ty (by simpa using h)
theorem ty_known {d : D} {t : String} (h : tyOf d = some t) : knownT.contains t = true := by
  cases d <;> cases h <;> rfl
theorem tyx_of {F : Fz} {H : Hp} (g : Good F H) {v : V} {d : D} {t : String} (p : Pk K F H v d) (h : tyOf d = some t) : TyX K H v (.type t) := by
  cases p with
  | own hh _ _ _ => cases h; exact .base (.lst hh)
  | rep r =>
    cases r with
    | non => cases h; exact .base .non
    | bl b => cases h; exact .base (.bl b)
    | int i => cases h; exact .base (.int i)
    | str x => cases h; exact .base (.str x)
    | lst hh _ => cases h; exact .base (.lst (g.sub _ _ hh))
    | tup hh _ =>
      cases h
      rcases hh with hh | ⟨o, its, n, hk, hc, _⟩
      · exact .base (.tup (g.sub _ _ hh))
      · exact .kTuple hk hc
    | pot _ => cases h
    | ty _ => cases h
    | scr _ => cases h
    | dct hh => cases h; exact .base (.dK (g.sub _ _ hh))
    | fn _ => cases h
    | clo _ _ _ _ _ _ _ => cases h
    | inst _ _ _ => cases h
    | inst0 _ => cases h
def isTys : List D → Option (List String)
  | [] => some []
  | .ty c :: ds => if knownC.contains c then (isTys ds).map (c :: ·) else none
  | _ => none
theorem clsV_of {F : Fz} : ∀ {ds : List D} {vs : List V} {cs : List String}, isTys ds = some cs → Reps K F vs ds → Paired ClsV vs (cs.map Value.type) ∧ ∀ c ∈ cs, knownC.contains c = true
  | [], _, cs, h, .nil => by cases h; exact ⟨.nil, fun _ h => nomatch h⟩
  | d :: ds, _, cs, h, .cons r rs => by
    cases d with
    | ty c =>
      have h : (if knownC.contains c then (isTys ds).map (c :: ·) else none) = some cs := h
      split at h
      · rename_i hc
        cases e : isTys ds with
        | none => rw [e] at h; cases h
        | some ms =>
          rw [e] at h
          cases h
          cases r
          obtain ⟨a, b⟩ := clsV_of e rs
          exact ⟨.cons (.ty c) a, fun z hz => (List.mem_cons.mp hz).elim (fun q => q ▸ hc) (b z)⟩
      · cases h
    | _ => cases h
theorem kitAny_known {t : String} (ht : knownT.contains t = true) : ∀ cs : List String, (∀ c ∈ cs, knownC.contains c = true) → PySem.W.kitAny K (.type t) (cs.map Value.type) = some (cs.any (instB t))
  | [], _ => rfl
  | c :: cs, h => by
    have h1 : PySem.W.kitOne K (.type t) (.type c) = some (instB t c) := kit_known ht (h c List.mem_cons_self)
    have h2 := kitAny_known ht cs fun z hz => h z (List.mem_cons_of_mem _ hz)
    show (match PySem.W.kitOne K (.type t) (.type c) with | some true => some true | some false => PySem.W.kitAny K (.type t) (cs.map Value.type) | none => none) = _
    rw [h1, h2, List.any_cons]
    cases instB t c <;> rfl
def fIsi : List D → Tree D
  | [d, .ty c] => withO (tyOf d) fun t => if knownC.contains c = true then leaf (.bl (instB t c)) else fail
  | [d, .tup cs] => withO (tyOf d) fun t => withO (isTys cs) fun cs => leaf (.bl (cs.any (instB t)))
  | _ => fail
def rIsiA (K : PySem.W.Frag) : List V → Hp → VK → Prop := fun xs H Q => rIsi K xs H Q ∨ rIsiT K xs H Q ∨ rIsiK K xs H Q
theorem f1_isi : Fn1 K (rIsiA K) fIsi := by
  intro F H vs ds Q g p q
  unfold fIsi at q
  split at q
  · rename_i d c
    obtain ⟨v, u, rfl, p1, p2⟩ := pks2 p
    unfold withO at q
    split at q
    · rename_i t ht
      have q : (if knownC.contains c = true then leaf (D.bl (instB t c)) else fail).all _ := q
      by_cases hc : knownC.contains c = true
      · rw [if_pos hc] at q
        have e := p2.ty
        subst e
        exact .inl ⟨v, .ty c, .type t, .type c, instB t c, rfl, .ty c, tyx_of g p1 ht, kit_known (ty_known ht) hc, q _ F H (Ext.refl g) (.bl _)⟩
      · rw [if_neg hc] at q; exact q.elim
    · exact q.elim
  · rename_i d cs
    obtain ⟨v, u, rfl, p1, p2⟩ := pks2 p
    unfold withO at q
    split at q
    · rename_i t ht
      split at q
      · rename_i ns hn
        cases p2 with
        | rep r =>
          cases r with
          | tup hs rs =>
            obtain ⟨k1, k2⟩ := clsV_of hn rs
            rcases hs with hs | ⟨⟨oc, od, dt, sl⟩, its, n, hk, hc, hd, _, rv⟩
            · exact .inr (.inl ⟨v, _, _, .type t, _, _, rfl, g.sub _ _ hs, k1, tyx_of g p1 ht, kitAny_known (ty_known ht) ns k2, q _ F H (Ext.refl g) (.bl _)⟩)
            · have e := ClsV.all k1 rv
              simp only at hc hd
              subst hc hd
              exact .inr (.inr ⟨v, _, od, its.toList, n, sl, .type t, _, rfl, by rw [Array.toArray_toList]; exact hk, tyx_of g p1 ht, by rw [e]; exact kitAny_known (ty_known ht) ns k2, q _ F H (Ext.refl g) (.bl _)⟩)
      · exact q.elim
    · exact q.elim
  · exact q.elim
theorem cr_isi : CallR X (.builtin "isinstance") (rIsiA X.K) := CallR.or call_isi (CallR.or call_isiT call_isiK)
end
end R

set_option Elab.async false
set_option linter.all false
set_option maxRecDepth 100000
set_option maxHeartbeats 1000000
namespace R
open PySem PySem.Spec PyProof.Rows L2
open Tree (leaf fail)
/-! ### zip and enumerate over lists and tuples in any mixture -/
inductive SK where
  | l | t
namespace SK
def iter : SK → Heap → Addr → Addr → Nat → Prop
  | .l, h, i, a, n => h.IsListIter i a n
  | .t, h, i, a, n => h.IsTupleIter i a n
def seq : SK → Heap → Addr → Array Value → Prop
  | .l, h, a, xs => h.IsList a xs
  | .t, h, a, xs => h.IsTuple a xs
def nm : SK → String
  | .l => "list_iterator"
  | .t => "tuple_iterator"
theorem iter_at {k : SK} {h h' : Heap} {i a : Addr} {n : Nat} (x : k.iter h i a n) (e : ∀ o, h.get? i = some o → h'.get? i = some o) : k.iter h' i a n := by
  cases k with
  | l => exact Heap.IsListIter.at x e
  | t => exact Heap.IsTupleIter.at x e
theorem seq_at {k : SK} {h h' : Heap} {a : Addr} {xs : Array Value} (x : k.seq h a xs) (e : ∀ o, h.get? a = some o → h'.get? a = some o) : k.seq h' a xs := by
  cases k with
  | l => obtain ⟨o, ho, r⟩ := x; exact ⟨o, e o ho, r⟩
  | t => obtain ⟨o, ho, r⟩ := x; exact ⟨o, e o ho, r⟩
theorem iter_obj {k : SK} {h : Heap} {i a : Addr} {n : Nat} (x : k.iter h i a n) : ∃ o, h.get? i = some o ∧ ∀ v, o.data ≠ .cell v := by
  cases k with
  | l => obtain ⟨o, ho, _, hd⟩ := x; exact ⟨o, ho, fun v z => by rw [hd] at z; cases z⟩
  | t => obtain ⟨o, ho, _, hd⟩ := x; exact ⟨o, ho, fun v z => by rw [hd] at z; cases z⟩
theorem seq_lt {k : SK} {h : Heap} {a : Addr} {xs : Array Value} (x : k.seq h a xs) : a < h.objs.size := by
  cases k with
  | l => obtain ⟨o, ho, _⟩ := x; exact Heap.lt_size ho
  | t => obtain ⟨o, ho, _⟩ := x; exact Heap.lt_size ho
section
variable {prog : Program} {w : World} {A : Around} {E : Value → Shared → Prop} {s : Shared}
theorem item {k : SK} {i a : Addr} {n : Nat} {xs : Array Value} {x : Value} {Q : Value → Shared → Prop} (hi : k.iter s.heap i a n) (ha : k.seq s.heap a xs) (hx : xs[n]? = some x)
    (hQ : ∀ h', k.iter h' i a (n + 1) → Heap.SameBut i s.heap h' → Q x { s with heap := h' }) : wpAny (model prog w) A (Builtin.SmallTypes.nextOf (.ref i)) Q E s := by
  cases k with
  | l => exact wpAny_nextOf_list_item hi ha hx hQ
  | t => exact RZ.nextOf_tuple_item hi ha hx hQ
theorem done {k : SK} {i a : Addr} {n : Nat} {xs : Array Value} {Q : Value → Shared → Prop} (hh : A.handled = none) (hi : k.iter s.heap i a n) (ha : k.seq s.heap a xs) (hx : xs[n]? = none)
    (hE : ∀ h' e, Heap.ExtBut i s.heap h' → (∃ o, h'.get? e = some o ∧ o.cls = .type "StopIteration") → E (.ref e) { s with heap := h' }) : wpAny (model prog w) A (Builtin.SmallTypes.nextOf (.ref i)) Q E s := by
  cases k with
  | l => exact wpAny_nextOf_list_end hh hi ha hx hE
  | t => exact RZ.nextOf_tuple_end hh hi ha hx hE
theorem start {k : SK} {a : Addr} {xs : Array Value} {Q : Value → Shared → Prop} (ha : k.seq s.heap a xs) (h : Q (.ref s.heap.objs.size) { s with heap := s.heap.push { cls := .type k.nm, data := .fields #[.ref a, .int 0 0] } }) :
    wpAny (model prog w) A (pyIter (.ref a)) Q E s := by
  cases k with
  | l => exact wpAny_pyIter_list ha h
  | t => exact wpAny_pyIter_tuple ha h
theorem fresh {k : SK} {h : Heap} {i a : Addr} (e : h.get? i = some { cls := .type k.nm, data := .fields #[.ref a, .int 0 0] }) : k.iter h i a 0 := by
  cases k with
  | l => exact ⟨_, e, rfl, rfl⟩
  | t => exact ⟨_, e, rfl, rfl⟩
end
end SK

section
variable {prog : Program} {w : World} {A : Around} {E : Value → Shared → Prop} {s : Shared}
variable {z TI TO i1 i2 l1 l2 : Addr} {k1 k2 : SK} {n : Nat} {xs ys : Array Value} {x y a b : Value}
theorem mixed_item {Q : Value → Shared → Prop} (D : ZipApart z TI TO i1 i2 l1 l2) (hz : IsZip s.heap z TI TO .none) (hTI : IsPair s.heap TI (.ref i1) (.ref i2)) (hTO : IsPair s.heap TO a b)
    (h1 : k1.iter s.heap i1 l1 n) (h2 : k2.iter s.heap i2 l2 n) (g1 : k1.seq s.heap l1 xs) (g2 : k2.seq s.heap l2 ys) (hx : xs[n]? = some x) (hy : ys[n]? = some y)
    (hQ : ∀ h', IsZip h' z TI TO (rawInt s.heap.objs.size) → IsPair h' TO x y → k1.iter h' i1 l1 (n + 1) → k2.iter h' i2 l2 (n + 1) → IsPair h' s.heap.objs.size x y →
      (∀ c o, c ∉ [z, TO, i1, i2] → s.heap.get? c = some o → h'.get? c = some o) → Q (.ref s.heap.objs.size) { s with heap := h' }) :
    wpAny (model prog w) A (Builtin.«zip.__next__» ⟨[.ref z], []⟩) (fun fin s' => ∃ v, fin = .done (.ret v) ∧ Q v s') E s := by
  show wpAny _ _ (field (.ref z) 2 >>= _) _ _ _
  refine wpAny_bind (wpAny_field hz rfl (x := .bool false) rfl ?_)
  show wpAny _ _ (field (.ref z) 3 >>= _) _ _ _
  refine wpAny_bind (wpAny_field hz rfl (x := .ref TI) rfl (wpAny_bind (wpAny_seqItems hTI rfl ?_)))
  show wpAny _ _ (Builtin.SmallTypes.ownedTupleIsFree (.ref z) >>= _) _ _ _
  unfold Builtin.SmallTypes.ownedTupleIsFree
  refine wpAny_bind (wpAny_bind (wpAny_field hz rfl (x := .none) rfl (wpAny_pure ?_)))
  simp only [if_true]
  refine wpAny_bind (wpAny_rule (wpAny_bind (wpAny_field hz rfl (x := .ref TO) rfl ?_)))
  refine wpAny_bind (wpAny_setField_rec hz (by simp) fun ha za sa => ?_)
  have za : IsZip ha z TI TO .ellipsis := za
  have ka : ∀ c o, c ≠ z → s.heap.get? c = some o → ha.get? c = some o := fun c o ne e => (sa.2 c ne).trans e
  refine wpAny_bind ?_
  simp only [List.zipIdx_cons, List.zipIdx_nil, List.forIn_cons, List.forIn_nil]
  refine wpAny_bind (wpAny_bind (wpAny_onRaise (wpAny_bind (m := Builtin.SmallTypes.nextOf (.ref i1)) (SK.item (SK.iter_at h1 fun o => ka _ o D.i1z) (SK.seq_at g1 fun o => ka _ o D.l1z) hx fun hb j1 sb => wpAny_pure ?_))))
  have kb : ∀ c o, c ≠ z → c ≠ i1 → s.heap.get? c = some o → hb.get? c = some o := fun c o n1 n2 e => (sb.2 c n2).trans (ka c o n1 e)
  have pb : IsPair hb TO a b := kb _ _ D.TOz D.TOi1 hTO
  refine wpAny_bind (wpAny_seqItems pb rfl (wpAny_bind (wpAny_updateSeq_pair pb fun hc pc sc => ?_)))
  have pc : IsPair hc TO x b := pc
  have kc : ∀ c o, c ≠ z → c ≠ i1 → c ≠ TO → s.heap.get? c = some o → hc.get? c = some o := fun c o n1 n2 n3 e => (sc.2 c n3).trans (kb c o n1 n2 e)
  refine wpAny_bind (wpAny_letGo (wpAny_pure ?_))
  refine wpAny_bind (wpAny_bind (wpAny_onRaise (wpAny_bind (m := Builtin.SmallTypes.nextOf (.ref i2)) (SK.item (SK.iter_at h2 fun o => kc _ o D.i2z D.i12.symm D.TOi2.symm) (SK.seq_at g2 fun o => kc _ o D.l2z D.l2i1 D.l2TO) hy fun hd j2 sd => wpAny_pure ?_))))
  have kd : ∀ c o, c ≠ z → c ≠ i1 → c ≠ TO → c ≠ i2 → s.heap.get? c = some o → hd.get? c = some o := fun c o n1 n2 n3 n4 e => (sd.2 c n4).trans (kc c o n1 n2 n3 e)
  have pd : IsPair hd TO x b := (sd.2 _ D.TOi2).trans pc
  refine wpAny_bind (wpAny_seqItems pd rfl (wpAny_bind (wpAny_updateSeq_pair pd fun he pe se => ?_)))
  have pe : IsPair he TO x y := pe
  refine wpAny_bind (wpAny_letGo (wpAny_pure (wpAny_pure ?_)))
  refine wpAny_bind (wpAny_seqItems pe rfl (wpAny_bind (wpAny_newTuple ?_)))
  have size : he.objs.size = s.heap.objs.size := by rw [se.1, sd.1, sc.1, sb.1, sa.1]
  have ze : IsZip he z TI TO .ellipsis := (se.2 _ D.TOz.symm).trans ((sd.2 _ D.i2z.symm).trans ((sc.2 _ D.TOz.symm).trans ((sb.2 _ D.i1z.symm).trans za)))
  have q1 : k1.iter he i1 l1 (n + 1) := SK.iter_at j1 fun o e => (se.2 _ D.TOi1.symm).trans ((sd.2 _ D.i12).trans ((sc.2 _ D.TOi1.symm).trans e))
  have q2 : k2.iter he i2 l2 (n + 1) := SK.iter_at j2 fun o e => (se.2 _ D.TOi2.symm).trans e
  have zlt : z < he.objs.size := Heap.lt_size ze
  show wpAny _ _ (Builtin.SmallTypes.ownedTupleHandOut (.ref z) (.ref he.objs.size) >>= _) _ _ _
  unfold Builtin.SmallTypes.ownedTupleHandOut
  have zf : IsZip (he.push { cls := .type "tuple", data := .seq #[x, y] }) z TI TO .ellipsis := Heap.get?_push_of_some _ ze
  refine wpAny_bind (wpAny_bind (wpAny_setField_rec zf (by simp) fun hg zg sg => ?_))
  have zg : IsZip hg z TI TO (rawInt he.objs.size) := zg
  refine wpAny_setField_rec zg (by simp) fun hh zh sh => ?_
  have zh : IsZip hh z TI TO (rawInt he.objs.size) := zh
  have up : ∀ c o, c ≠ z → he.get? c = some o → hh.get? c = some o := fun c o ne e => (sh.2 c ne).trans ((sg.2 c ne).trans (Heap.get?_push_of_some _ e))
  have new : IsPair hh he.objs.size x y := (sh.2 _ (Nat.ne_of_gt zlt)).trans ((sg.2 _ (Nat.ne_of_gt zlt)).trans (Heap.get?_push_size _ rfl))
  rw [size] at zh new
  refine wpAny_pure ⟨_, rfl, ?_⟩
  show Q (.ref he.objs.size) _
  rw [size]
  refine hQ hh zh (up _ _ D.TOz pe) (SK.iter_at q1 fun o e => up _ o D.i1z e) (SK.iter_at q2 fun o e => up _ o D.i2z e) new fun c o nm e => ?_
  simp only [List.mem_cons, List.not_mem_nil, or_false, not_or] at nm
  exact up c o nm.1 ((se.2 c nm.2.1).trans (kd c o nm.1 nm.2.2.1 nm.2.1 nm.2.2.2 e))
theorem mixed_end {Q : Fin → Shared → Prop} (hh : A.handled = none) (D : ZipApart z TI TO i1 i2 l1 l2) (hz : IsZip s.heap z TI TO .none) (hTI : IsPair s.heap TI (.ref i1) (.ref i2)) (hTO : IsPair s.heap TO a b)
    (h1 : k1.iter s.heap i1 l1 n) (h2 : k2.iter s.heap i2 l2 n) (g1 : k1.seq s.heap l1 xs) (g2 : k2.seq s.heap l2 ys) (hend : xs[n]? = none ∨ ys[n]? = none)
    (hE : ∀ h' e, (∀ c o, c ∉ [z, TO, i1, i2] → s.heap.get? c = some o → h'.get? c = some o) → (∃ o, h'.get? e = some o ∧ o.cls = .type "StopIteration") → E (.ref e) { s with heap := h' }) :
    wpAny (model prog w) A (Builtin.«zip.__next__» ⟨[.ref z], []⟩) Q E s := by
  show wpAny _ _ (field (.ref z) 2 >>= _) _ _ _
  refine wpAny_bind (wpAny_field hz rfl (x := .bool false) rfl ?_)
  show wpAny _ _ (field (.ref z) 3 >>= _) _ _ _
  refine wpAny_bind (wpAny_field hz rfl (x := .ref TI) rfl (wpAny_bind (wpAny_seqItems hTI rfl ?_)))
  show wpAny _ _ (Builtin.SmallTypes.ownedTupleIsFree (.ref z) >>= _) _ _ _
  unfold Builtin.SmallTypes.ownedTupleIsFree
  refine wpAny_bind (wpAny_bind (wpAny_field hz rfl (x := .none) rfl (wpAny_pure ?_)))
  simp only [if_true]
  refine wpAny_bind (wpAny_rule (wpAny_bind (wpAny_field hz rfl (x := .ref TO) rfl ?_)))
  refine wpAny_bind (wpAny_setField_rec hz (by simp) fun ha za sa => ?_)
  have za : IsZip ha z TI TO .ellipsis := za
  have ka : ∀ c o, c ≠ z → s.heap.get? c = some o → ha.get? c = some o := fun c o ne e => (sa.2 c ne).trans e
  refine wpAny_bind ?_
  simp only [List.zipIdx_cons, List.zipIdx_nil, List.forIn_cons, List.forIn_nil]
  have h1a := SK.iter_at h1 fun o => ka _ o D.i1z
  have g1a := SK.seq_at g1 fun o => ka _ o D.l1z
  refine wpAny_bind (wpAny_bind (wpAny_onRaise ?_))
  cases hx : xs[n]? with
  | none =>
    refine wpAny_bind (m := Builtin.SmallTypes.nextOf (.ref i1)) (SK.done hh h1a g1a hx fun hb e xb ⟨oe, hoe, hce⟩ => ?_)
    have zb : IsZip hb z TI TO .ellipsis := xb _ _ D.i1z.symm za
    have ez : e ≠ z := fun q => by rw [q, zb] at hoe; cases hoe; simp at hce
    refine wpAny_setField_rec zb (by simp) fun hc _ sc => hE hc e (fun c o nm q => ?_) ⟨oe, (sc.2 e ez).trans hoe, hce⟩
    simp only [List.mem_cons, List.not_mem_nil, or_false, not_or] at nm
    exact (sc.2 c nm.1).trans (xb c o nm.2.2.1 (ka c o nm.1 q))
  | some x =>
    have hy : ys[n]? = none := hend.elim (fun q => by rw [hx] at q; cases q) fun q => q
    refine wpAny_bind (m := Builtin.SmallTypes.nextOf (.ref i1)) (SK.item h1a g1a hx fun hb j1 sb => wpAny_pure ?_)
    have kb : ∀ c o, c ≠ z → c ≠ i1 → s.heap.get? c = some o → hb.get? c = some o := fun c o n1 n2 e => (sb.2 c n2).trans (ka c o n1 e)
    have pb : IsPair hb TO a b := kb _ _ D.TOz D.TOi1 hTO
    refine wpAny_bind (wpAny_seqItems pb rfl (wpAny_bind (wpAny_updateSeq_pair pb fun hc pc sc => ?_)))
    have kc : ∀ c o, c ≠ z → c ≠ i1 → c ≠ TO → s.heap.get? c = some o → hc.get? c = some o := fun c o n1 n2 n3 e => (sc.2 c n3).trans (kb c o n1 n2 e)
    refine wpAny_bind (wpAny_letGo (wpAny_pure ?_))
    refine wpAny_bind (wpAny_bind (wpAny_onRaise ?_))
    refine wpAny_bind (m := Builtin.SmallTypes.nextOf (.ref i2)) (SK.done hh (SK.iter_at h2 fun o => kc _ o D.i2z D.i12.symm D.TOi2.symm) (SK.seq_at g2 fun o => kc _ o D.l2z D.l2i1 D.l2TO) hy fun hd e xd ⟨oe, hoe, hce⟩ => ?_)
    have zd : IsZip hd z TI TO .ellipsis := xd _ _ D.i2z.symm ((sc.2 _ D.TOz.symm).trans ((sb.2 _ D.i1z.symm).trans za))
    have ez : e ≠ z := fun q => by rw [q, zd] at hoe; cases hoe; simp at hce
    refine wpAny_setField_rec zd (by simp) fun he _ se => hE he e (fun c o nm q => ?_) ⟨oe, (se.2 e ez).trans hoe, hce⟩
    simp only [List.mem_cons, List.not_mem_nil, or_false, not_or] at nm
    exact (se.2 c nm.1).trans (xd c o nm.2.2.2 (kc c o nm.1 nm.2.2.1 nm.2.1 q))
end
/-- what a zip's record looks like at its i-th turn -/
structure ZSt (k1 k2 : SK) (z TI TO i1 i2 l1 l2 : Addr) (i : Nat) (h : Heap) : Prop where
  z : IsZip h z TI TO .none
  ti : IsPair h TI (.ref i1) (.ref i2)
  to : ∃ x y, IsPair h TO x y
  a : k1.iter h i1 l1 i
  b : k2.iter h i2 l2 i
def sq (K : PySem.W.Frag) : SK → Hp → Addr → List V → Prop
  | .l, H, a, xs => SqL K H a xs
  | .t, H, a, xs => SqT K H a xs
theorem Inv.sqs {X : Cx} {pins : List (Addr × Obj)} {σ : L2.St} {H : Hp} {s : Shared} (I : Inv X pins σ H s) {k : SK} {a : Addr} {xs : List V} (h : sq X.K k H a xs) : ∃ its : List Value, Vals xs its ∧ k.seq s.heap a its.toArray := by
  cases k with
  | l => obtain ⟨its, r, p, _⟩ := I.list h; exact ⟨its, r, p.isList⟩
  | t => obtain ⟨its, r, p, _⟩ := I.tuple h; exact ⟨its, r, p⟩
theorem Inv.sq_inj {X : Cx} {pins : List (Addr × Obj)} {σ : L2.St} {H : Hp} {s : Shared} (I : Inv X pins σ H s) {k : SK} {a : Addr} {xs ys : List V} (h : sq X.K k H a xs) (h' : sq X.K k H a ys) : xs = ys := by
  cases k with
  | l => exact I.list_inj h h'
  | t => exact I.tuple_inj h h'
def Izm (K : PySem.W.Frag) (k1 k2 : SK) (a b : Addr) : It :=
  ⟨fun i H => ∃ (xs ys : List V) (x y : V), sq K k1 H a xs ∧ sq K k2 H b ys ∧ xs[i]? = some x ∧ ys[i]? = some y,
    fun i H v H' => ∃ T x y, v = .ref T ∧ H T = none ∧ H' = upd H T (.tup [x, y]) ∧ (∀ xs, sq K k1 H a xs → xs[i]? = some x) ∧ ∀ ys, sq K k2 H b ys → ys[i]? = some y,
    fun i H => ∃ xs ys : List V, sq K k1 H a xs ∧ sq K k2 H b ys ∧ (xs.length ≤ i ∨ ys.length ≤ i)⟩
section
variable {P : Program} {w : World} {K : PySem.W.Frag} {elts : List Expr} {kk : Nat} {tpos : Pos} {k1 k2 : SK} {a b z TI TO i1 i2 : Addr}
theorem sub4 {c z TI TO i1 i2 : Addr} (h : c ∈ [z, TO, i1, i2]) : c ∈ [z, TI, TO, i1, i2] := by
  simp only [List.mem_cons, List.not_mem_nil, or_false] at h
  rcases h with rfl | rfl | rfl | rfl <;> simp
theorem turn_mixed (D : ZipApart z TI TO i1 i2 a b) : Turn P w K (.Tuple elts kk tpos) (Izm K k1 k2 a b) [z, TI, TO, i1, i2] z (ZSt k1 k2 z TI TO i1 i2 a b) where
  mem := by simp
  obj := fun i h st c hc => by
    obtain ⟨x, y, to⟩ := st.to
    simp only [List.mem_cons, List.not_mem_nil, or_false] at hc
    rcases hc with q | q | q | q | q
    · rw [q]; exact ⟨_, st.z, fun v q => nomatch q⟩
    · rw [q]; exact ⟨_, st.ti, fun v q => nomatch q⟩
    · rw [q]; exact ⟨_, to, fun v q => nomatch q⟩
    · rw [q]; exact SK.iter_obj st.a
    · rw [q]; exact SK.iter_obj st.b
  keep := fun i h h' st k => by
    obtain ⟨x, y, to⟩ := st.to
    exact ⟨k z (by simp) _ st.z, k TI (by simp) _ st.ti, ⟨x, y, k TO (by simp) _ to⟩, SK.iter_at st.a fun o q => k i1 (by simp) o q, SK.iter_at st.b fun o q => k i2 (by simp) o q⟩
  item := by
    intro X hP hw hK hc i pins s σ H E I hf st hg
    subst hP hw hK
    obtain ⟨x0, y0, to⟩ := st.to
    obtain ⟨xs, ys, x, y, qx, qy, hx, hy⟩ := hg
    obtain ⟨its, r1, p1⟩ := Inv.sqs I qx
    obtain ⟨jts, r2, p2⟩ := Inv.sqs I qy
    obtain ⟨u, hu, ru⟩ := r1.get hx
    obtain ⟨u2, hu2, ru2⟩ := r2.get hy
    have hT : s.TypeIs (.ref z) "zip" := ⟨_, st.z, rfl⟩
    have zl : z < s.heap.objs.size := Heap.lt_size st.z
    unfold pyNext
    refine wpAny_bind (wpAny_attempt (wpAny_callSpecial?_slot (name := Str.ofString "__next__") hT F.slot_zip_next (wpAny_call_entry F.slot_zip_next hT F.entry_zip_next
      (mixed_item D st.z st.ti to st.a st.b p1 p2 (x := u) (y := u2) (by simpa using hu) (by simpa using hu2) fun h' z' to' a' b' new keep => wpAny_pure ?_) (F.args_zip_next_1 _))))
    refine ⟨_, rfl, wpAny_letOwnedTupleGo_zip (s := { s with heap := h' }) z' fun g' gz sb => ?_⟩
    have new2 : g'.get? s.heap.objs.size = some { cls := .type "tuple", data := .seq #[u, u2] } := (sb.2 _ (Nat.ne_of_gt zl)).trans new
    have lt : ∀ c ∈ [z, TI, TO, i1, i2], c < s.heap.objs.size := fun c hcm => by
      simp only [List.mem_cons, List.not_mem_nil, or_false] at hcm
      rcases hcm with q | q | q | q | q
      · rw [q]; exact zl
      · rw [q]; exact Heap.lt_size st.ti
      · rw [q]; exact Heap.lt_size to
      · obtain ⟨o, e, _⟩ := SK.iter_obj st.a; rw [q]; exact Heap.lt_size e
      · obtain ⟨o, e, _⟩ := SK.iter_obj st.b; rw [q]; exact Heap.lt_size e
    have I1 : Inv X pins σ (upd H s.heap.objs.size (.tup [x, y])) { s with heap := g' } :=
      I.turnedNew (t' := s.toks) (ch := [z, TI, TO, i1, i2]) (fun c o hb q => (sb.2 c (fun e => hb (by simp [e]))).trans (keep c o (fun m => hb (sub4 m)) q)) hf (Nat.le_refl _)
        ⟨by show 2 ≤ sizeLine; decide, [u, u2], .cons ru (.cons ru2 .nil), ⟨_, new2, rfl, _, rfl⟩⟩
    refine ⟨.ref s.heap.objs.size, _, I1, rfl, ⟨_, x, y, rfl, I.hok.fresh (Nat.le_refl _), rfl, fun l hl => by rw [Inv.sq_inj I hl qx]; exact hx, fun l hl => by rw [Inv.sq_inj I hl qy]; exact hy⟩, ⟨gz, ?_, ⟨u, u2, (sb.2 _ D.TOz).trans to'⟩, SK.iter_at a' fun o q => (sb.2 _ D.i1z).trans q, SK.iter_at b' fun o q => (sb.2 _ D.i2z).trans q⟩, fun c hcm => ?_⟩
    · exact (sb.2 _ D.TIz).trans (keep _ _ (by simp [D.TIz, D.TITO, D.TIi1, D.TIi2]) st.ti)
    · rw [upd_ne (Nat.ne_of_lt (lt c hcm))]
      exact (hf c hcm).1
  done := by
    intro X hP hw hK hc i pins s σ H E I hf st hg
    subst hP hw hK
    obtain ⟨x0, y0, to⟩ := st.to
    obtain ⟨xs, ys, qx, qy, hend⟩ := hg
    obtain ⟨its, r1, p1⟩ := Inv.sqs I qx
    obtain ⟨jts, r2, p2⟩ := Inv.sqs I qy
    have l1 := r1.length
    have l2 := r2.length
    have hT : s.TypeIs (.ref z) "zip" := ⟨_, st.z, rfl⟩
    have he : its.toArray[i]? = none ∨ jts.toArray[i]? = none := hend.elim (fun q => .inl (by simp; omega)) fun q => .inr (by simp; omega)
    unfold pyNext
    refine wpAny_bind (wpAny_attempt (wpAny_callSpecial?_slot (name := Str.ofString "__next__") hT F.slot_zip_next (wpAny_call_entry F.slot_zip_next hT F.entry_zip_next
      (mixed_end (I.ok.hd hc) D st.z st.ti to st.a st.b p1 p2 he fun h' e keep ⟨o, ho, hco⟩ => ?_) (F.args_zip_next_1 _))))
    refine wpAny_bind (wpAny_isInstance (T := "StopIteration") (b := true) ⟨o, ho, hco⟩ isSubtype_stop (wpAny_pure ⟨rfl, ?_⟩))
    exact I.turnedL (t' := s.toks) (ch := [z, TI, TO, i1, i2]) (fun c o hb q => keep c o (fun m => hb (sub4 m)) q) hf
  self := fun A i s Q E st h => wpAny_pyIter_zip st.z h
end
section
variable {prog : Program} {w : World} {A : Around} {E : Value → Shared → Prop} {s : Shared}
theorem zip_new {k1 k2 : SK} (l1 l2 : Addr) (xs ys : Array Value) :
    Meets (Builtin.«zip.__new__» ⟨[.type "zip", .ref l1, .ref l2], []⟩) (fun _ R s => k1.seq s.heap l1 xs ∧ k2.seq s.heap l2 ys ∧
      ∀ h', ZSt k1 k2 (s.heap.objs.size + 4) (s.heap.objs.size + 2) (s.heap.objs.size + 3) s.heap.objs.size (s.heap.objs.size + 1) l1 l2 0 h' → (∀ c o, s.heap.get? c = some o → h'.get? c = some o) → R (.ok (.ret (.ref (s.heap.objs.size + 4)))) { s with heap := h' }) :=
  .of_wp fun prog w A R s h => by
    obtain ⟨hp, g, d, tk, os⟩ := s
    obtain ⟨g1, g2, h⟩ := h
    have hsub := sub_zip
    let o1 : Obj := { cls := .type k1.nm, data := .fields #[.ref l1, .int 0 0] }
    let o2 : Obj := { cls := .type k2.nm, data := .fields #[.ref l2, .int 0 0] }
    have u1 : ∀ {A : Around} {E : Value → Shared → Prop} {Q : Value → Shared → Prop}, Q (.ref hp.objs.size) ⟨hp.push o1, g, d, tk, os⟩ → wpAny (model prog w) A (pyIter (.ref l1)) Q E ⟨hp, g, d, tk, os⟩ := fun {A E Q} q => SK.start (s := ⟨hp, g, d, tk, os⟩) g1 q
    have u2 : ∀ {A : Around} {E : Value → Shared → Prop} {Q : Value → Shared → Prop}, Q (.ref (hp.push o1).objs.size) ⟨(hp.push o1).push o2, g, d, tk, os⟩ → wpAny (model prog w) A (pyIter (.ref l2)) Q E ⟨hp.push o1, g, d, tk, os⟩ := fun {A E Q} q => SK.start (s := ⟨hp.push o1, g, d, tk, os⟩) (SK.seq_at g2 fun o e => Heap.get?_push_of_some _ e) q
    wp_walk using u1, u2
    refine ⟨_, rfl, ?_⟩
    let o3 : Obj := { cls := .type "tuple", data := .seq #[.ref hp.objs.size, .ref (hp.push o1).objs.size] }
    let o4 : Obj := { cls := .type "tuple", data := .seq #[.none, .none] }
    have n1 : (hp.push o1).objs.size = hp.objs.size + 1 := Heap.size_push ..
    have n2 : ((hp.push o1).push o2).objs.size = hp.objs.size + 2 := by rw [Heap.size_push, n1]
    have n3 : (((hp.push o1).push o2).push o3).objs.size = hp.objs.size + 3 := by rw [Heap.size_push, n2]
    have n4 : ((((hp.push o1).push o2).push o3).push o4).objs.size = hp.objs.size + 4 := by rw [Heap.size_push, n3]
    have z4 : Value.ref ((((hp.push o1).push o2).push o3).push o4).objs.size = .ref (hp.objs.size + 4) := by rw [n4]
    let o5 : Obj := { cls := .type "zip", data := .fields #[.none, .bool false, .bool false, .ref ((hp.push o1).push o2).objs.size, .ref (((hp.push o1).push o2).push o3).objs.size] }
    have e5 : o5 = { cls := .type "zip", data := .fields #[.none, .bool false, .bool false, .ref (hp.objs.size + 2), .ref (hp.objs.size + 3)] } := by simp only [o5, n2, n3]
    show R (.ok (.ret (.ref ((((hp.push o1).push o2).push o3).push o4).objs.size))) ⟨((((hp.push o1).push o2).push o3).push o4).push o5, g, d, tk, os⟩
    rw [n4]
    refine h _ ⟨?_, ?_, ⟨.none, .none, ?_⟩, ?_, ?_⟩ fun c o e => ?_
    · have e := Heap.get?_push_size ((((hp.push o1).push o2).push o3).push o4) (o := o5) rfl
      rw [n4] at e
      exact e.trans (congrArg some e5)
    · have e := Heap.get?_push_size ((hp.push o1).push o2) (o := o3) rfl
      rw [n2] at e
      have e : ((hp.push o1).push o2 |>.push o3).get? (hp.objs.size + 2) = some { cls := .type "tuple", data := .seq #[.ref hp.objs.size, .ref (hp.objs.size + 1)] } := by rw [e]; simp only [o3, n1]
      exact Heap.get?_push_of_some _ (Heap.get?_push_of_some _ e)
    · have e := Heap.get?_push_size (((hp.push o1).push o2).push o3) (o := o4) rfl
      rw [n3] at e
      exact Heap.get?_push_of_some _ e
    · exact SK.iter_at (SK.fresh (Heap.get?_push_size hp (o := o1) rfl)) fun o e => Heap.get?_push_of_some _ (Heap.get?_push_of_some _ (Heap.get?_push_of_some _ (Heap.get?_push_of_some _ e)))
    · have e := Heap.get?_push_size (hp.push o1) (o := o2) rfl
      rw [n1] at e
      exact SK.iter_at (SK.fresh e) fun o e => Heap.get?_push_of_some _ (Heap.get?_push_of_some _ (Heap.get?_push_of_some _ e))
    · exact Heap.get?_push_of_some _ (Heap.get?_push_of_some _ (Heap.get?_push_of_some _ (Heap.get?_push_of_some _ (Heap.get?_push_of_some _ e))))
theorem call_zip {k1 k2 : SK} {l1 l2 : Addr} {xs ys : Array Value} {Q : Value → Shared → Prop} (h1 : k1.seq s.heap l1 xs) (h2 : k2.seq s.heap l2 ys)
    (h : ∀ h', ZSt k1 k2 (s.heap.objs.size + 4) (s.heap.objs.size + 2) (s.heap.objs.size + 3) s.heap.objs.size (s.heap.objs.size + 1) l1 l2 0 h' → (∀ c o, s.heap.get? c = some o → h'.get? c = some o) → Q (.ref (s.heap.objs.size + 4)) { s with heap := h' }) :
    wpAny (model prog w) A (call (.type "zip") [.ref l1, .ref l2]) Q E s :=
  callType_new F.called_zip (by decide) (F.typeCall_zip_2 _ _) (F.newCall_zip_2 _ _) (fun obj => F.args_object_init_3 obj _ _) F.entry_zip_new
    (zip_new l1 l2 xs ys) ⟨h1, h2, fun h' st keep => ⟨⟨_, st.z, rfl⟩, h h' st keep⟩⟩
end
def iZm (K : PySem.W.Frag) (ta : TA) : TI := fun σ H R => ta σ H fun vs H1 => ∃ a b k1 k2 xs ys, vs = [.ref a, .ref b] ∧ sq K k1 H1 a xs ∧ sq K k2 H1 b ys ∧ R (Izm K k1 k2 a b) H1
theorem pi_zm {X : Cx} {e e2 : Expr} {ta : TA} {p pos tpos : Pos} {elts : List Expr} {kk : Nat} (hg : Gl X "zip") (hm : X.mg "zip" = none) (ha : PA X [e, e2] ta)
    (hs : starEach [e, e2] X.env = (false, eval e X.env) :: starEach [e2] X.env := by rfl) (hpl : (backTo pos (starEach [e2] X.env)).any (·.1) = false := by rfl) :
    PI X (.Tuple elts kk tpos) (.Call (.Name "zip" p) [e, e2] [] pos) (iZm X.K ta) := by
  refine ⟨fun pins s σ H R I h => ?_⟩
  refine Call_ (ld_blt I hg hm PyProof.Rows.boot_zip (PyProof.Rows.callWith_type1 (thn (ha.run pos pins s σ H _ I h) fun us s1 ⟨vs, H1, I1, r1, a, b, k1, k2, xs, ys, ex, qx, qy, q⟩ => ?_) hs hpl))
  subst ex
  cases r1 with
  | cons r rr =>
    cases rr with
    | cons r' rr =>
      cases rr
      cases r
      cases r'
      obtain ⟨its, _, p1⟩ := Inv.sqs I1 qx
      obtain ⟨jts, _, p2⟩ := Inv.sqs I1 qy
      refine call_zip p1 p2 fun h' st keep => wpAny_pyIter_zip st.z ?_
      refine ⟨s1.heap.objs.size + 4, [s1.heap.objs.size + 4, s1.heap.objs.size + 2, s1.heap.objs.size + 3, s1.heap.objs.size, s1.heap.objs.size + 1], _, _, H1, rfl, I1.kept (t' := s1.toks) keep, turn_mixed (PySem.W.ktu_apart s1.heap.objs.size a b (SK.seq_lt p1) (SK.seq_lt p2)), st, fun c hc => ?_, q⟩
      have hle : s1.heap.objs.size ≤ c := by
        simp only [List.mem_cons, List.not_mem_nil, or_false] at hc
        rcases hc with z | z | z | z | z <;> (rw [z]; first | exact Nat.le_add_right _ _ | exact Nat.le_refl _)
      exact I1.fpOk hle (I1.hok.fresh hle)
end R

set_option Elab.async false
set_option linter.all false
set_option maxRecDepth 100000
set_option maxHeartbeats 1000000
namespace R
open PySem PySem.Spec PyProof.Rows L2
open Tree (leaf fail)
section
variable {prog : Program} {w : World} {A : Around} {E : Value → Shared → Prop} {s : Shared} {e it l : Addr} {k : SK} {i : Nat} {xs : Array Value} {x old : Value}
theorem enum_item {Q : Value → Shared → Prop} (he : IsEnum s.heap e it i old) (hi : k.iter s.heap it l i) (hl : k.seq s.heap l xs) (hx : xs[i]? = some x) (ne : e ≠ it)
    (hQ : ∀ h', IsEnumOut h' e it ((i : Int) + 1) x s.heap.objs.size → k.iter h' it l (i + 1) → h'.get? s.heap.objs.size = some { cls := .type "tuple", data := .seq #[.int i s.toks, x] } →
      (∀ b o, b ≠ e → b ≠ it → s.heap.get? b = some o → h'.get? b = some o) → Q (.ref s.heap.objs.size) { s with heap := h', toks := s.toks + 1 }) :
    wpAny (model prog w) A (Builtin.«enumerate.__next__» ⟨[.ref e], []⟩) (fun fin s' => ∃ v, fin = .done (.ret v) ∧ Q v s') E s := by
  obtain ⟨hp, g, d, tk, os⟩ := s
  have el : e < hp.objs.size := Heap.lt_size he
  show wpAny _ _ (field (.ref e) 2 >>= _) _ _ _
  refine wpAny_bind (wpAny_field he rfl (x := .ref it) rfl (wpAny_bind (m := Builtin.SmallTypes.nextOf (.ref it)) (SK.item hi hl hx fun ha j sa => ?_)))
  have sa : Heap.SameBut it hp ha := sa
  have ea : IsEnum ha e it i old := (sa.2 e ne).trans he
  show wpAny _ _ (field (.ref e) 3 >>= _) _ _ ⟨ha, g, d, tk, os⟩
  refine wpAny_bind (wpAny_field ea rfl (x := rawInt i) rfl ?_)
  show wpAny _ _ (field (.ref e) 4 >>= _) _ _ ⟨ha, g, d, tk, os⟩
  refine wpAny_bind (wpAny_field ea rfl (x := .none) rfl ?_)
  show wpAny _ _ (mkInt i >>= _) _ _ ⟨ha, g, d, tk, os⟩
  refine wpAny_bind (wpAny_mkInt ?_)
  show wpAny _ _ (setField (.ref e) 3 (rawInt ((i : Int) + 1)) >>= _) _ _ ⟨ha, g, d, tk + 1, os⟩
  refine wpAny_bind (wpAny_setField_rec ea (by simp) fun hb eb sb => ?_)
  have eb : IsEnum hb e it ((i : Int) + 1) old := eb
  have sb : Heap.SameBut e ha hb := sb
  show wpAny _ _ (setField (.ref e) 4 .none >>= _) _ _ ⟨hb, g, d, tk + 1, os⟩
  refine wpAny_bind (wpAny_setField_rec eb (by simp) fun hc ec sc => ?_)
  have ec : IsEnum hc e it ((i : Int) + 1) old := ec
  have sc : Heap.SameBut e hb hc := sc
  show wpAny _ _ (newTuple [.int i tk, x] >>= _) _ _ ⟨hc, g, d, tk + 1, os⟩
  refine wpAny_bind (wpAny_newTuple ?_)
  have size : hc.objs.size = hp.objs.size := by rw [sc.1, sb.1, sa.1]
  have kc : ∀ b o, b ≠ e → b ≠ it → hp.get? b = some o → hc.get? b = some o := fun b o n1 n2 q => (sc.2 b n1).trans ((sb.2 b n1).trans ((sa.2 b n2).trans q))
  have jc : k.iter hc it l (i + 1) := SK.iter_at j fun o q => (sc.2 it ne.symm).trans ((sb.2 it ne.symm).trans q)
  have new : (hc.push { cls := .type "tuple", data := .seq #[.int i tk, x] }).get? hp.objs.size = some { cls := .type "tuple", data := .seq #[.int i tk, x] } := by rw [← size]; exact Heap.get?_push_size _ rfl
  have ed : IsEnum (hc.push { cls := .type "tuple", data := .seq #[.int i tk, x] }) e it ((i : Int) + 1) old := Heap.get?_push_of_some _ ec
  have up : ∀ b o, hc.get? b = some o → (hc.push { cls := .type "tuple", data := .seq #[.int i tk, x] }).get? b = some o := fun b o q => Heap.get?_push_of_some _ q
  generalize hc.push { cls := .type "tuple", data := .seq #[.int i tk, x] } = hd at new ed up
  show wpAny _ _ (Builtin.SmallTypes.ownedTupleIsFree (.ref e) >>= _) _ _ ⟨hd, g, d, tk + 1, os⟩
  rw [size]
  unfold Builtin.SmallTypes.ownedTupleIsFree
  refine wpAny_bind (wpAny_bind (wpAny_field ed rfl (x := .none) rfl (wpAny_pure ?_)))
  simp only [if_true]
  refine wpAny_bind (wpAny_rule (wpAny_bind (wpAny_field ed rfl (x := old) rfl (wpAny_bind (wpAny_setField_rec ed (by simp) fun hf ef sf => ?_)))))
  have ef : IsEnum hf e it ((i : Int) + 1) x := ef
  have sf : Heap.SameBut e hd hf := sf
  show wpAny _ _ (Builtin.SmallTypes.ownedTupleHandOut (.ref e) (.ref hp.objs.size) >>= _) _ _ ⟨hf, g, d, tk + 1, os⟩
  unfold Builtin.SmallTypes.ownedTupleHandOut
  refine wpAny_bind (wpAny_bind (wpAny_setField_rec ef (by simp) fun hg eg sg => ?_))
  have eg : IsEnumOut hg e it ((i : Int) + 1) x hp.objs.size := eg
  have sg : Heap.SameBut e hf hg := sg
  refine wpAny_setField_rec eg (by simp) fun hh eh sh => ?_
  have eh : IsEnumOut hh e it ((i : Int) + 1) x hp.objs.size := eh
  have sh : Heap.SameBut e hg hh := sh
  have last : ∀ b o, b ≠ e → hd.get? b = some o → hh.get? b = some o := fun b o n1 q => (sh.2 b n1).trans ((sg.2 b n1).trans ((sf.2 b n1).trans q))
  refine wpAny_bind (wpAny_letGo (wpAny_pure ⟨_, rfl, hQ hh eh (SK.iter_at jc fun o q => last _ o ne.symm (up _ o q)) (last _ _ (Nat.ne_of_gt el) new) fun b o n1 n2 q => last b o n1 (up b o (kc b o n1 n2 q))⟩))
theorem enum_end {Q : Fin → Shared → Prop} (hh : A.handled = none) (he : IsEnum s.heap e it i old) (hi : k.iter s.heap it l i) (hl : k.seq s.heap l xs) (hx : xs[i]? = none)
    (hE : ∀ h' z, Heap.ExtBut it s.heap h' → (∃ o, h'.get? z = some o ∧ o.cls = .type "StopIteration") → E (.ref z) { s with heap := h' }) :
    wpAny (model prog w) A (Builtin.«enumerate.__next__» ⟨[.ref e], []⟩) Q E s := by
  show wpAny _ _ (field (.ref e) 2 >>= _) _ _ _
  exact wpAny_bind (wpAny_field he rfl (x := .ref it) rfl (wpAny_bind (m := Builtin.SmallTypes.nextOf (.ref it)) (SK.done hh hi hl hx hE)))
theorem enum_new {k : SK} (l : Addr) (xs : Array Value) :
    Meets (Builtin.«enumerate.__new__» ⟨[.type "enumerate", .ref l], []⟩) (fun _ R s => k.seq s.heap l xs ∧
      ∀ h', IsEnum h' (s.heap.objs.size + 1) s.heap.objs.size 0 .none → k.iter h' s.heap.objs.size l 0 → (∀ c o, s.heap.get? c = some o → h'.get? c = some o) → R (.ok (.ret (.ref (s.heap.objs.size + 1)))) { s with heap := h' }) :=
  .of_wp fun prog w A R s h => by
    obtain ⟨hp, g, d, tk, os⟩ := s
    obtain ⟨g1, h⟩ := h
    have hsub : isSubtype (.type "enumerate") (.type "enumerate") = pure true := by rw [isSubtype_type]; kernel_rfl
    let o1 : Obj := { cls := .type k.nm, data := .fields #[.ref l, .int 0 0] }
    have u1 : ∀ {A : Around} {E : Value → Shared → Prop} {Q : Value → Shared → Prop}, Q (.ref hp.objs.size) ⟨hp.push o1, g, d, tk, os⟩ → wpAny (model prog w) A (pyIter (.ref l)) Q E ⟨hp, g, d, tk, os⟩ := fun {A E Q} q => SK.start (s := ⟨hp, g, d, tk, os⟩) g1 q
    have fin : R (.ok (.ret (.ref (hp.push o1).objs.size))) ⟨(hp.push o1).push { cls := .type "enumerate", data := .fields #[.none, .bool false, .ref hp.objs.size, rawInt 0, .none, .none] }, g, d, tk, os⟩ := by
      have n1 : (hp.push o1).objs.size = hp.objs.size + 1 := Heap.size_push ..
      rw [n1]
      refine h _ ?_ (SK.iter_at (SK.fresh (Heap.get?_push_size hp (o := o1) rfl)) fun o e => Heap.get?_push_of_some _ e) fun c o e => Heap.get?_push_of_some _ (Heap.get?_push_of_some _ e)
      have e := Heap.get?_push_size (hp.push o1) (o := { cls := .type "enumerate", data := .fields #[.none, .bool false, .ref hp.objs.size, rawInt 0, .none, .none] }) rfl
      rw [n1] at e
      exact e
    wp_walk using u1
    refine wpAny_stack_any fun st => wpAny_pure ?_
    split
    · rename_i c _ _ _ _ _
      cases (c == Value.type "enumerate") <;> (wp_walk using u1; exact ⟨_, rfl, fin⟩)
    · wp_walk using u1
      exact ⟨_, rfl, fin⟩
theorem call_enum {Q : Value → Shared → Prop} (h1 : k.seq s.heap l xs)
    (h : ∀ h', IsEnum h' (s.heap.objs.size + 1) s.heap.objs.size 0 .none → k.iter h' s.heap.objs.size l 0 → (∀ c o, s.heap.get? c = some o → h'.get? c = some o) → Q (.ref (s.heap.objs.size + 1)) { s with heap := h' }) :
    wpAny (model prog w) A (call (.type "enumerate") [.ref l]) Q E s :=
  callType_new F.called_enumerate (by decide) (F.typeCall_enumerate_1 _) (F.newCall_enumerate_1 _) (fun obj => F.args_object_init_2 obj _) F.entry_enumerate_new
    (enum_new l xs) ⟨h1, fun h' e it keep => ⟨⟨_, e, rfl⟩, h h' e it keep⟩⟩
end
def Iem (K : PySem.W.Frag) (k : SK) (a : Addr) : It :=
  ⟨fun i H => ∃ (xs : List V) (x : V), sq K k H a xs ∧ xs[i]? = some x, fun i H v H' => ∃ T x, v = .ref T ∧ H T = none ∧ H' = upd H T (.tup [.int (i : Nat), x]) ∧ ∀ xs, sq K k H a xs → xs[i]? = some x,
    fun i H => ∃ xs : List V, sq K k H a xs ∧ xs.length ≤ i⟩
theorem turn_em {P : Program} {w : World} {K : PySem.W.Frag} {elts : List Expr} {kk : Nat} {tpos : Pos} {k : SK} {a e it : Addr} (ne : e ≠ it) :
    Turn P w K (.Tuple elts kk tpos) (Iem K k a) [e, it] e (fun i h => (∃ old, IsEnum h e it ((i : Nat) : Int) old) ∧ k.iter h it a i) where
  mem := by simp
  obj := fun i h st b hb => by
    obtain ⟨⟨old, he⟩, hi⟩ := st
    simp only [List.mem_cons, List.not_mem_nil, or_false] at hb
    rcases hb with z | z
    · rw [z]; exact ⟨_, he, fun v q => nomatch q⟩
    · rw [z]; exact SK.iter_obj hi
  keep := fun i h h' st k => let ⟨⟨old, he⟩, hi⟩ := st; ⟨⟨old, k e (by simp) _ he⟩, SK.iter_at hi fun o q => k it (by simp) o q⟩
  item := by
    intro X hP hw hK hc i pins s σ H E I hf st hg
    subst hP hw hK
    obtain ⟨⟨old, he⟩, hi⟩ := st
    obtain ⟨xs, x, hq, hx⟩ := hg
    obtain ⟨its, rv, p⟩ := Inv.sqs I hq
    obtain ⟨u, hu, ru⟩ := rv.get hx
    have hT : s.TypeIs (.ref e) "enumerate" := ⟨_, he, rfl⟩
    have el : e < s.heap.objs.size := Heap.lt_size he
    have il : it < s.heap.objs.size := by obtain ⟨o, q, _⟩ := SK.iter_obj hi; exact Heap.lt_size q
    unfold pyNext
    refine wpAny_bind (wpAny_attempt (wpAny_callSpecial?_slot (name := Str.ofString "__next__") hT F.slot_enumerate_next (wpAny_call_entry F.slot_enumerate_next hT F.entry_enumerate_next
      (enum_item he hi p (x := u) (by simpa using hu) ne fun h' ho hi' new keep => wpAny_pure ?_) (F.args_enumerate_next_1 _))))
    refine ⟨_, rfl, wpAny_letOwnedTupleGo_enum (s := { s with heap := h', toks := s.toks + 1 }) ho fun g' eg sb => ?_⟩
    have new2 : g'.get? s.heap.objs.size = some { cls := .type "tuple", data := .seq #[.int i s.toks, u] } := (sb.2 _ (Nat.ne_of_gt el)).trans new
    have I1 : Inv X pins σ (upd H s.heap.objs.size (.tup [.int (i : Nat), x])) { s with heap := g', toks := s.toks + 1 } :=
      I.turnedNew (ch := [e, it]) (fun b o hb q => (sb.2 b (fun z => hb (by simp [z]))).trans (keep b o (fun z => hb (by simp [z])) (fun z => hb (by simp [z])) q)) hf (Nat.le_refl _)
        ⟨by show 2 ≤ sizeLine; decide, [.int i s.toks, u], .cons ⟨_, rfl⟩ (.cons ru .nil), ⟨_, new2, rfl, _, rfl⟩⟩
    refine ⟨.ref s.heap.objs.size, _, I1, rfl, ⟨_, x, rfl, I.hok.fresh (Nat.le_refl _), rfl, fun ys hy => by rw [Inv.sq_inj I hy hq]; exact hx⟩, ⟨⟨u, ?_⟩, SK.iter_at hi' fun o q => (sb.2 it ne.symm).trans q⟩, fun b hb => ?_⟩
    · rw [show ((i + 1 : Nat) : Int) = (i : Int) + 1 by omega]; exact eg
    · have lt : b < s.heap.objs.size := by
        simp only [List.mem_cons, List.not_mem_nil, or_false] at hb
        rcases hb with z | z
        · rw [z]; exact el
        · rw [z]; exact il
      rw [upd_ne (Nat.ne_of_lt lt)]
      exact (hf b hb).1
  done := by
    intro X hP hw hK hc i pins s σ H E I hf st hg
    subst hP hw hK
    obtain ⟨⟨old, he⟩, hi⟩ := st
    obtain ⟨xs, hq, hx⟩ := hg
    obtain ⟨its, rv, p⟩ := Inv.sqs I hq
    have hl := rv.length
    have hT : s.TypeIs (.ref e) "enumerate" := ⟨_, he, rfl⟩
    obtain ⟨f0, f1, f2, f3, f4, f5⟩ := hf it (by simp)
    unfold pyNext
    refine wpAny_bind (wpAny_attempt (wpAny_callSpecial?_slot (name := Str.ofString "__next__") hT F.slot_enumerate_next (wpAny_call_entry F.slot_enumerate_next hT F.entry_enumerate_next
      (enum_end (I.ok.hd hc) he hi p (by simp; omega) fun h' z eb ⟨o, ho, hco⟩ => ?_) (F.args_enumerate_next_1 _))))
    refine wpAny_bind (wpAny_isInstance (T := "StopIteration") (b := true) ⟨o, ho, hco⟩ isSubtype_stop (wpAny_pure ⟨rfl, ?_⟩))
    exact I.turned (t' := s.toks) (fun b o hb q => eb b o hb q) f0 f1 f3 f4 f5
  self := fun A i s Q E st h => let ⟨⟨_, he⟩, _⟩ := st; wpAny_pyIter_enum he h
def iEm (K : PySem.W.Frag) (ta : TA) : TI := fun σ H R => ta σ H fun vs H1 => ∃ k a xs, vs = [.ref a] ∧ sq K k H1 a xs ∧ R (Iem K k a) H1
theorem pi_em {X : Cx} {e : Expr} {ta : TA} {p pos tpos : Pos} {elts : List Expr} {kk : Nat} (hg : Gl X "enumerate") (hm : X.mg "enumerate" = none) (ha : PA X [e] ta) (hs : starEach [e] X.env = [(false, eval e X.env)] := by rfl) :
    PI X (.Tuple elts kk tpos) (.Call (.Name "enumerate" p) [e] [] pos) (iEm X.K ta) := by
  refine ⟨fun pins s σ H R I h => ?_⟩
  refine Call_ (ld_blt I hg hm boot_enumerate (PyProof.Rows.callWith_type1 (thn (ha.run pos pins s σ H _ I h) fun us s1 ⟨vs, H1, I1, r1, k, a, xs, ex, hq, q⟩ => ?_) hs rfl))
  subst ex
  cases r1 with
  | cons r rr =>
    cases rr
    cases r
    obtain ⟨its, rv, p'⟩ := Inv.sqs I1 hq
    refine call_enum p' fun h' he hi keep => wpAny_pyIter_enum he ?_
    refine ⟨s1.heap.objs.size + 1, [s1.heap.objs.size + 1, s1.heap.objs.size], _, _, H1, rfl, I1.kept (t' := s1.toks) keep, turn_em (Nat.succ_ne_self _), ⟨⟨.none, he⟩, hi⟩, fun b hb => ?_, q⟩
    have hle : s1.heap.objs.size ≤ b := by
      simp only [List.mem_cons, List.not_mem_nil, or_false] at hb
      rcases hb with z | z
      · rw [z]; exact Nat.le_add_right _ _
      · rw [z]; exact Nat.le_refl _
    exact I1.fpOk hle (I1.hok.fresh hle)
end R

set_option Elab.async false
set_option linter.all false
set_option maxRecDepth 100000
namespace R
open PySem PySem.Spec PyProof.Rows L2
open Tree (leaf fail)
/-! ### what a loop walks, by data -/
def Isq (K : PySem.W.Frag) : SK → Addr → It
  | .l, a => Itl K a
  | .t, a => Itt K a
theorem pi_sq {X : Cx} {tg l : Expr} {tl : TE} (hl : PE X l tl) : PI X tg l (fun σ H R => tl σ H fun x H1 => ∃ k a xs, x = .ref a ∧ sq X.K k H1 a xs ∧ R (Isq X.K k a) H1) := by
  refine ⟨fun pins s σ H R I h => thn (hl.run pins s σ H _ I h) fun v s1 ⟨x, H1, I1, r1, k, a, xs, e, hq, q⟩ => ?_⟩
  subst e
  cases r1
  have fp : ∀ b ∈ [s1.heap.objs.size], FpOk X pins H1 b := fun b hb => by
    rw [List.mem_singleton.mp hb]
    exact I1.fpOk (Nat.le_refl _) (I1.hok.fresh (Nat.le_refl _))
  obtain ⟨its, _, p⟩ := Inv.sqs I1 hq
  cases k with
  | l => exact wpAny_pyIter_list p ⟨_, _, _, _, H1, rfl, I1.kept (t' := s1.toks) fun b o e => Heap.get?_push_of_some _ e, turn_list a _, ⟨_, Heap.get?_push_size _ rfl, rfl, rfl⟩, fp, q⟩
  | t => exact wpAny_pyIter_tuple p ⟨_, _, _, _, H1, rfl, I1.kept (t' := s1.toks) fun b o e => Heap.get?_push_of_some _ e, turn_tuple a _, ⟨_, Heap.get?_push_size _ rfl, rfl, rfl⟩, fp, q⟩
section
variable {K : PySem.W.Frag} {A : Fz → Hp → Prop} {F' : Fz} {k k1 k2 : SK} {a b : Addr} {xs ys : List V} {ds es : List D}
structure Src (K : PySem.W.Frag) (A : Fz → Hp → Prop) (F' : Fz) (k : SK) (a : Addr) (xs : List V) (ds : List D) : Prop where
  at_ : ∀ F2 H2, A F2 H2 → Good F2 H2 → sq K k H2 a xs
  le : ∀ F2 H2, A F2 H2 → F'.Le F2
  rep : Reps K F' xs ds
theorem sq_inj {K : PySem.W.Frag} {k : SK} {H : Hp} {a : Addr} {x y : V} {i : Nat} (h : ∀ xs, sq K k H a xs → xs[i]? = some x) (hs : sq K k H a xs) (hy : xs[i]? = some y) : x = y := by
  have := h xs hs
  rw [hy] at this; cases this; rfl
theorem yld_sq (S : Src K A F' k a xs ds) : Yld K (Isq K k a) A ds := by
  intro F2 H2 ha g i
  have hs := S.at_ F2 H2 ha g
  refine ⟨fun d hd => ?_, fun hi => ?_⟩
  · obtain ⟨v, hv, rv⟩ := S.rep.get' hd
    have rv := rv.mono (S.le F2 H2 ha)
    cases k with
    | l => exact ⟨⟨xs, v, hs, hv⟩, fun x H'' ⟨e, hx⟩ => by subst e; exact ⟨F2, Ext.refl g, (sq_inj (k := .l) hx hs hv) ▸ rv⟩⟩
    | t => exact ⟨⟨xs, v, hs, hv⟩, fun x H'' ⟨e, hx⟩ => by subst e; exact ⟨F2, Ext.refl g, (sq_inj (k := .t) hx hs hv) ▸ rv⟩⟩
  · cases k with
    | l => exact ⟨xs, hs, by rw [S.rep.length]; exact hi⟩
    | t => exact ⟨xs, hs, by rw [S.rep.length]; exact hi⟩
def zipD : List D → List D → List D
  | d :: ds, e :: es => .tup [d, e] :: zipD ds es
  | _, _ => []
theorem zipD_get : ∀ {ds es : List D} {i : Nat} {z : D}, (zipD ds es)[i]? = some z → ∃ d e, ds[i]? = some d ∧ es[i]? = some e ∧ z = .tup [d, e]
  | [], _, i, z, h => by simp [zipD] at h
  | _ :: _, [], i, z, h => by simp [zipD] at h
  | d :: ds, e :: es, 0, z, h => by simp [zipD] at h; exact ⟨d, e, rfl, rfl, h.symm⟩
  | d :: ds, e :: es, i + 1, z, h => by
    obtain ⟨d', e', h1, h2, h3⟩ := zipD_get (ds := ds) (es := es) (i := i) (by simpa [zipD] using h)
    exact ⟨d', e', by simpa using h1, by simpa using h2, h3⟩
theorem zipD_len : ∀ ds es : List D, (zipD ds es).length = min ds.length es.length
  | [], _ => by simp [zipD]
  | _ :: _, [] => by simp [zipD]
  | d :: ds, e :: es => by simp only [zipD, List.length_cons, zipD_len ds es]; omega
theorem yld_zip (S1 : Src K A F' k1 a xs ds) (S2 : Src K A F' k2 b ys es) : Yld K (Izm K k1 k2 a b) A (zipD ds es) := by
  intro F2 H2 ha g i
  have h1 := S1.at_ F2 H2 ha g
  have h2 := S2.at_ F2 H2 ha g
  refine ⟨fun z hz => ?_, fun hi => ?_⟩
  · obtain ⟨d, e, hd, he, rfl⟩ := zipD_get hz
    obtain ⟨v, hv, rv⟩ := S1.rep.get' hd
    obtain ⟨u, hu, ru⟩ := S2.rep.get' he
    refine ⟨⟨xs, ys, v, u, h1, h2, hv, hu⟩, fun x H'' ⟨T, x', y', e1, nT, e2, f1, f2⟩ => ?_⟩
    subst e1 e2
    have le := (S1.le F2 H2 ha).trans (Fz.le_add (o := .tup [x', y']) (g.free nT).1)
    refine ⟨F2.add T (.tup [x', y']), Ext.addNew g nT, .tup (.of upd_same) (.cons ?_ (.cons ?_ .nil))⟩
    · exact (sq_inj f1 h1 hv) ▸ rv.mono le
    · exact (sq_inj f2 h2 hu) ▸ ru.mono le
  · rw [zipD_len] at hi
    have l1 := S1.rep.length
    have l2 := S2.rep.length
    exact ⟨xs, ys, h1, h2, by omega⟩
def enumD : Nat → List D → List D
  | _, [] => []
  | n, d :: ds => .tup [.int (n : Nat), d] :: enumD (n + 1) ds
theorem enumD_get : ∀ {ds : List D} {n i : Nat} {z : D}, (enumD n ds)[i]? = some z → ∃ d, ds[i]? = some d ∧ z = .tup [.int ((n + i : Nat) : Int), d]
  | [], n, i, z, h => by simp [enumD] at h
  | d :: ds, n, 0, z, h => by simp [enumD] at h; exact ⟨d, rfl, h.symm⟩
  | d :: ds, n, i + 1, z, h => by
    obtain ⟨d', h1, h2⟩ := enumD_get (ds := ds) (n := n + 1) (i := i) (by simpa [enumD] using h)
    exact ⟨d', by simpa using h1, by rw [h2, show n + 1 + i = n + (i + 1) by omega]⟩
theorem enumD_len : ∀ (ds : List D) (n : Nat), (enumD n ds).length = ds.length
  | [], n => rfl
  | d :: ds, n => by simp only [enumD, List.length_cons, enumD_len ds]
theorem yld_enum (S : Src K A F' k a xs ds) : Yld K (Iem K k a) A (enumD 0 ds) := by
  intro F2 H2 ha g i
  have h1 := S.at_ F2 H2 ha g
  refine ⟨fun z hz => ?_, fun hi => ?_⟩
  · obtain ⟨d, hd, rfl⟩ := enumD_get hz
    obtain ⟨v, hv, rv⟩ := S.rep.get' hd
    refine ⟨⟨xs, v, h1, hv⟩, fun x H'' ⟨T, x', e1, nT, e2, f1⟩ => ?_⟩
    subst e1 e2
    have le := (S.le F2 H2 ha).trans (Fz.le_add (o := .tup [.int (i : Nat), x']) (g.free nT).1)
    refine ⟨F2.add T (.tup [.int (i : Nat), x']), Ext.addNew g nT, .tup (.of upd_same) (.cons ?_ (.cons ?_ .nil))⟩
    · rw [Nat.zero_add]; exact .int _
    · exact (sq_inj f1 h1 hv) ▸ rv.mono le
  · rw [enumD_len] at hi
    exact ⟨xs, h1, by rw [S.rep.length]; exact hi⟩
def rangeD (lo hi : Int) : List D := (List.range (hi - lo).toNat).map fun i => .int (lo + (i : Nat))
theorem yld_range {lo hi : Int} : Yld K (Itr lo (hi - lo).toNat) A (rangeD lo hi) := by
  intro F2 H2 ha g i
  refine ⟨fun z hz => ?_, fun hi => ?_⟩
  · unfold rangeD at hz
    rw [List.getElem?_map] at hz
    by_cases h : i < (hi - lo).toNat
    · rw [List.getElem?_range h] at hz
      cases hz
      exact ⟨h, fun x H'' ⟨e1, e2⟩ => by subst e1 e2; exact ⟨F2, Ext.refl g, .int _⟩⟩
    · rw [List.getElem?_eq_none (by simpa using h)] at hz; cases hz
  · unfold rangeD at hi
    rw [List.length_map, List.length_range] at hi
    exact hi
def seqOf : D → Tree (List D)
  | .lst ds => leaf ds
  | .tup ds => leaf ds
  | .scr ns => leaf (ns.map .int)
  | _ => fail
theorem reps_ints {F : Fz} : ∀ ns : List Int, Reps K F (ns.map V.int) (ns.map D.int)
  | [] => .nil
  | n :: ns => .cons (.int n) (reps_ints ns)
theorem src_rep {v : V} {d : D} {Q : List D → Prop} (r : Rep K F' v d) (q : (seqOf d).all Q) : ∃ k a xs ds, v = .ref a ∧ Q ds ∧ Src K (fun F2 _ => F'.Le F2) F' k a xs ds := by
  unfold seqOf at q
  split at q
  · cases r with
    | lst h rs => exact ⟨.l, _, _, _, rfl, q, fun F2 H2 l g => .of (g.sub _ _ (l.p _ _ h)), fun _ _ l => l, rs⟩
  · cases r with
    | tup h rs => exact ⟨.t, _, _, _, rfl, q, fun F2 H2 l g => sqT_same g.sub (h.same l.p).sq, fun _ _ l => l, rs⟩
  · cases r with
    | scr h => exact ⟨.l, _, _, _, rfl, q, fun F2 H2 l g => g.sub.seq (l.p.seq h), fun _ _ l => l, reps_ints _⟩
  · exact q.elim
theorem src_pk {H' : Hp} {v : V} {d : D} {Q : List D → Prop} (p : Pk K F' H' v d) (q : (seqOf d).all Q) : ∃ k a xs ds, v = .ref a ∧ Q ds ∧ Src K (fun F2 H2 => Ext F' H' F2 H2) F' k a xs ds := by
  cases p with
  | rep r =>
    obtain ⟨k, a, xs, ds, h1, h2, h3⟩ := src_rep r q
    exact ⟨k, a, xs, ds, h1, h2, fun F2 H2 e g => h3.at_ F2 H2 e.le g, fun _ _ e => e.le, h3.rep⟩
  | own h t n rs => exact ⟨.l, _, _, _, rfl, q, fun F2 H2 e g => .of (own_ext e h n t).1, fun _ _ e => e.le, rs⟩
end
section
variable {X : Cx} {tg e e2 : Expr} {m m' : En → Tree D} {p pos : Pos}
def mSeq (m : En → Tree D) : En → Tree (List D) := fun E => (m E).bind seqOf
theorem si_seq (h : SE X e m) : SI X tg e (mSeq m) := ⟨_, pi_sq h.pe, fun σ H R ⟨B, F, E, g, r, q⟩ => ⟨B, F, E, g, r, Tree.all_mono (fun d k v F' H' e rv => by
  obtain ⟨k', a, xs, ds, h1, h2, h3⟩ := src_rep rv k
  exact ⟨k', a, xs, h1, h3.at_ F' H' (Fz.Le.refl _) e.good, h2 _ F' H' e (yld_sq h3)⟩) (Tree.all_bind.mp q)⟩⟩
theorem sip_seq (h : SP X e m) : SIp X tg e (mSeq m) := ⟨_, pi_sq h.pe, fun σ H R ⟨B, F, E, g, r, q⟩ => ⟨B, F, E, g, r, Tree.all_mono (fun d k v F' H' e rv => by
  obtain ⟨k', a, xs, ds, h1, h2, h3⟩ := src_pk rv k
  exact ⟨k', a, xs, h1, h3.at_ F' H' (Ext.refl e.good) e.good, h2 _ F' H' e (yld_sq h3)⟩) (Tree.all_bind.mp q)⟩⟩
def rOk (j : Int) : Bool := decide (-(2 ^ 62) ≤ j) && decide (j < 2 ^ 62)
theorem rOk_of {j : Int} (h : rOk j = true) : -(2 ^ 62) ≤ j ∧ j < 2 ^ 62 := by
  unfold rOk at h
  simpa only [Bool.and_eq_true, decide_eq_true_eq] using h
def mRange1 (m : En → Tree D) : En → Tree (List D) := fun E => (m E).bind fun d => match d with
  | .int j => if rOk j = true then leaf (rangeD 0 j) else fail
  | _ => fail
def mRange2 (m m' : En → Tree D) : En → Tree (List D) := fun E => (m E).bind fun d => (m' E).bind fun d' => match d, d' with
  | .int i, .int j => if (rOk i && rOk j) = true then leaf (rangeD i j) else fail
  | _, _ => fail
theorem si_range1 (hg : Gl X "range") (hm : X.mg "range" = none) (ha : SP X e m) (hs : starEach [e] X.env = [(false, eval e X.env)] := by rfl) : SI X tg (.Call (.Name "range" p) [e] [] pos) (mRange1 m) := by
  refine ⟨_, pi_range1 hg hm (pa_cons ha.pe pa_nil hs) hs, fun σ H R ⟨B, F, E, g, r, q⟩ => ⟨B, F, E, g, r, Tree.all_mono (fun d k v F' H' e pv => ?_) (Tree.all_bind.mp q)⟩⟩
  cases d with
  | int j =>
    cases pv.int
    have k : (if rOk j = true then leaf (rangeD 0 j) else fail).all _ := k
    by_cases h : rOk j = true
    · rw [if_pos h] at k
      obtain ⟨h1, h2⟩ := rOk_of h
      refine ⟨j, rfl, h1, h2, k _ F' H' e ?_⟩
      have y : Yld X.K (Itr 0 (j - 0).toNat) (fun F2 _ => F'.Le F2) (rangeD 0 j) := yld_range
      rw [Int.sub_zero] at y
      exact y
    · rw [if_neg h] at k
      exact k.elim
  | _ => exact False.elim k
theorem si_range2 (hg : Gl X "range") (hm : X.mg "range" = none) (ha : SP X e m) (hb : SP X e2 m') (hs : starEach [e, e2] X.env = [(false, eval e X.env), (false, eval e2 X.env)] := by rfl) (hs2 : starEach [e2] X.env = [(false, eval e2 X.env)] := by rfl) :
    SI X tg (.Call (.Name "range" p) [e, e2] [] pos) (mRange2 m m') := by
  refine ⟨_, pi_range2 hg hm (pa_cons ha.pe (pa_cons hb.pe pa_nil hs2) (hs.trans (by rw [hs2]))) hs hs2, fun σ H R ⟨B, F, E, g, r, q⟩ => ⟨B, F, E, g, r, Tree.all_mono (fun d k v F1 H1 e1 pv => ⟨B, F1, E, e1.good, r.ext e1, Tree.all_mono (fun d' k v' F' H' e pv' => ?_) (Tree.all_bind.mp k)⟩) (Tree.all_bind.mp q)⟩⟩
  have pv := pv.ext e
  cases d with
  | int i =>
    cases d' with
    | int j =>
      cases pv.int
      cases pv'.int
      have k : (if (rOk i && rOk j) = true then leaf (rangeD i j) else fail).all _ := k
      by_cases h : (rOk i && rOk j) = true
      · rw [if_pos h] at k
        rw [Bool.and_eq_true] at h
        obtain ⟨h1, h2⟩ := rOk_of h.1
        obtain ⟨h3, h4⟩ := rOk_of h.2
        exact ⟨i, j, rfl, ⟨h1, h2, h3, h4⟩, k _ F' H' (e1.trans e) yld_range⟩
      · rw [if_neg h] at k
        exact k.elim
    | _ => exact False.elim k
  | _ => exact False.elim k
def mZip (m m' : En → Tree D) : En → Tree (List D) := fun E => (m E).bind fun d => (m' E).bind fun d' => (seqOf d).bind fun ds => (seqOf d').bind fun es => leaf (zipD ds es)
def mEnum (m : En → Tree D) : En → Tree (List D) := fun E => (m E).bind fun d => (seqOf d).bind fun ds => leaf (enumD 0 ds)
variable {elts : List Expr} {kk : Nat} {tpos : Pos}
theorem si_zip (hg : Gl X "zip") (hm : X.mg "zip" = none) (ha : SE X e m) (hb : SE X e2 m') (hs : starEach [e, e2] X.env = (false, eval e X.env) :: starEach [e2] X.env := by rfl) (hs2 : starEach [e2] X.env = (false, eval e2 X.env) :: starEach [] X.env := by rfl)
    (hpl : (backTo pos (starEach [e2] X.env)).any (·.1) = false := by rfl) : SI X (.Tuple elts kk tpos) (.Call (.Name "zip" p) [e, e2] [] pos) (mZip m m') := by
  refine ⟨_, pi_zm hg hm (pa_cons ha.pe (pa_cons hb.pe pa_nil hs2) hs) hs hpl, fun σ H R ⟨B, F, E, g, r, q⟩ => ⟨B, F, E, g, r, Tree.all_mono (fun d k v F1 H1 e1 pv => ⟨B, F1, E, e1.good, r.ext e1, Tree.all_mono (fun d' k v' F' H' e pv' => ?_) (Tree.all_bind.mp k)⟩) (Tree.all_bind.mp q)⟩⟩
  obtain ⟨k1, a, xs, ds, rfl, k, s1⟩ := src_rep (pv.mono e.le) (Tree.all_bind.mp k)
  obtain ⟨k2, b, ys, es, rfl, k, s2⟩ := src_rep pv' (Tree.all_bind.mp k)
  exact ⟨a, b, k1, k2, xs, ys, rfl, s1.at_ F' H' (Fz.Le.refl _) e.good, s2.at_ F' H' (Fz.Le.refl _) e.good, k _ F' H' (e1.trans e) (yld_zip s1 s2)⟩
theorem si_enum (hg : Gl X "enumerate") (hm : X.mg "enumerate" = none) (ha : SE X e m) (hs : starEach [e] X.env = [(false, eval e X.env)] := by rfl) : SI X (.Tuple elts kk tpos) (.Call (.Name "enumerate" p) [e] [] pos) (mEnum m) := by
  refine ⟨_, pi_em hg hm (pa_cons ha.pe pa_nil hs) hs, fun σ H R ⟨B, F, E, g, r, q⟩ => ⟨B, F, E, g, r, Tree.all_mono (fun d k v F' H' e pv => ?_) (Tree.all_bind.mp q)⟩⟩
  obtain ⟨k1, a, xs, ds, rfl, k, s1⟩ := src_rep pv (Tree.all_bind.mp k)
  exact ⟨k1, a, xs, rfl, s1.at_ F' H' (Fz.Le.refl _) e.good, k _ F' H' e (yld_enum s1)⟩
theorem sip_zip (hg : Gl X "zip") (hm : X.mg "zip" = none) (ha : SP X e m) (hb : SP X e2 m') (hs : starEach [e, e2] X.env = (false, eval e X.env) :: starEach [e2] X.env := by rfl) (hs2 : starEach [e2] X.env = (false, eval e2 X.env) :: starEach [] X.env := by rfl)
    (hpl : (backTo pos (starEach [e2] X.env)).any (·.1) = false := by rfl) : SIp X (.Tuple elts kk tpos) (.Call (.Name "zip" p) [e, e2] [] pos) (mZip m m') := by
  refine ⟨_, pi_zm hg hm (pa_cons ha.pe (pa_cons hb.pe pa_nil hs2) hs) hs hpl, fun σ H R ⟨B, F, E, g, r, q⟩ => ⟨B, F, E, g, r, Tree.all_mono (fun d k v F1 H1 e1 pv => ⟨B, F1, E, e1.good, r.ext e1, Tree.all_mono (fun d' k v' F' H' e pv' => ?_) (Tree.all_bind.mp k)⟩) (Tree.all_bind.mp q)⟩⟩
  obtain ⟨k1, a, xs, ds, rfl, k, s1⟩ := src_pk (pv.ext e) (Tree.all_bind.mp k)
  obtain ⟨k2, b, ys, es, rfl, k, s2⟩ := src_pk pv' (Tree.all_bind.mp k)
  exact ⟨a, b, k1, k2, xs, ys, rfl, s1.at_ F' H' (Ext.refl e.good) e.good, s2.at_ F' H' (Ext.refl e.good) e.good, k _ F' H' (e1.trans e) (yld_zip s1 s2)⟩
theorem sip_enum (hg : Gl X "enumerate") (hm : X.mg "enumerate" = none) (ha : SP X e m) (hs : starEach [e] X.env = [(false, eval e X.env)] := by rfl) : SIp X (.Tuple elts kk tpos) (.Call (.Name "enumerate" p) [e] [] pos) (mEnum m) := by
  refine ⟨_, pi_em hg hm (pa_cons ha.pe pa_nil hs) hs, fun σ H R ⟨B, F, E, g, r, q⟩ => ⟨B, F, E, g, r, Tree.all_mono (fun d k v F' H' e pv => ?_) (Tree.all_bind.mp q)⟩⟩
  obtain ⟨k1, a, xs, ds, rfl, k, s1⟩ := src_pk pv (Tree.all_bind.mp k)
  exact ⟨k1, a, xs, rfl, s1.at_ F' H' (Ext.refl e.good) e.good, k _ F' H' e (yld_enum s1)⟩

/-! ### an own list at a name is changed -/
theorem own_put {K : PySem.W.Frag} {F0 F : Fz} {H0 H : Hp} {σ : L2.St} {E : En} {i : Nat} {ds es : List D} {ys : List V} (e : Ext F0 H0 F H) (r : RelE K (B0 H0) F H σ E) (hi : E[i]? = some (some ⟨true, .lst ds⟩)) (ry : Reps K F ys es) :
    ∃ a xs, σ[i]? = some (some (.ref a)) ∧ H a = some (.lst xs) ∧ Reps K F xs ds ∧ (Ext F0 H0 F (upd H a (.lst ys)) ∧ RelE K (B0 H0) F (upd H a (.lst ys)) σ (E.putOwn i (.lst es))) := by
  obtain ⟨a, xs, ds', h1, h2, h3, h4, h5, h6, h7⟩ := r.own i _ hi
  cases h2
  refine ⟨a, xs, h1, h3, h4, e.write h5 h6 h7 ⟨_, h3⟩, ?_⟩
  have hl : i < E.length := (List.getElem?_eq_some_iff.mp hi).1
  refine ⟨by simp [r.len, En.putOwn], fun j d hj => ?_, fun j d hj => ?_, fun j k x y c hjk hx hy ha hb => ?_⟩
  · by_cases q : i = j
    · subst q; rw [En.putOwn, List.getElem?_set_self hl] at hj; cases hj
    · rw [En.putOwn, List.getElem?_set_ne q] at hj; exact r.val j d hj
  · by_cases q : i = j
    · subst q
      rw [En.putOwn, List.getElem?_set_self hl] at hj; cases hj
      exact ⟨a, ys, es, h1, rfl, upd_same, ry, h5, h6, h7⟩
    · rw [En.putOwn, List.getElem?_set_ne q] at hj
      obtain ⟨b, zs, fs, g1, g2, g3, g4, g5, g6, g7⟩ := r.own j d hj
      have ne : b ≠ a := fun z => by subst z; exact r.dist i j _ _ b q hi hj h1 g1
      exact ⟨b, zs, fs, g1, g2, by rw [upd_ne ne]; exact g3, g4, g5, g6, g7⟩
  · have fix : ∀ (j : Nat) (d : D), (En.putOwn E i (.lst es))[j]? = some (some ⟨true, d⟩) → ∃ d', E[j]? = some (some ⟨true, d'⟩) := fun j d hj => by
      by_cases q : i = j
      · subst q; exact ⟨_, hi⟩
      · rw [En.putOwn, List.getElem?_set_ne q] at hj; exact ⟨_, hj⟩
    obtain ⟨x', hx'⟩ := fix j x hx
    obtain ⟨y', hy'⟩ := fix k y hy
    exact r.dist j k x' y' c hjk hx' hy' ha hb
def mOwn (i : Nat) (E : En) (k : List D → Tree Out) : Tree Out := match E[i]? with
  | some (some ⟨true, .lst ds⟩) => k ds
  | _ => fail
theorem mOwn_all {i : Nat} {E : En} {k : List D → Tree Out} {P : Out → Prop} (h : (mOwn i E k).all P) : ∃ ds, E[i]? = some (some ⟨true, .lst ds⟩) ∧ (k ds).all P := by
  unfold mOwn at h
  split at h
  · exact ⟨_, by assumption, h⟩
  · exact h.elim
/-- x[e] = v, x an own list -/
def oStore (i : Nat) (mi mv : En → Tree D) : En → Tree Out := fun E => (mv E).bind fun v => mOwn i E fun _ => (mi E).bind fun d => match d with
  | .int k => mOwn i E fun ds => match ixN ds.length k with
    | some j => leaf (.nx (E.putOwn i (.lst (ds.set j v))))
    | none => fail
  | _ => fail
theorem s_store {i : Nat} {x : Str} {px pos' : Pos} {ei ev : Expr} {mi mv : En → Tree D} (he : SE X ev mv)
    (h1 : PG X (.Subscript (.Name x px) ei pos') (gSub (tVar i) (tP X.K mi) rSetL))
    (hs : swapsWithSole [.Subscript (.Name x px) ei pos'] ev pos.line X.env = pure false := by rfl) (hw : swappedStores [.Subscript (.Name x px) ei pos'] ev X.env = pure none := by rfl)
    (h2 : (assignEach [.Subscript (.Name x px) ei pos'] X.env).map (·.2) = [assign (.Subscript (.Name x px) ei pos') X.env] := by rfl) : SS X (.Assign [.Subscript (.Name x px) ei pos'] ev pos) (oStore i mi mv) := by
  refine ⟨PS.weak (ps_asg he.pe h1 hs hw h2) fun D0 σ H ⟨F0, H0, F, E, e, r, q⟩ => ?_⟩
  refine exprIn e r (Tree.all_mono (fun d k v F1 H1 e1 l1 r1 p1 => ?_) (Tree.all_bind.mp q))
  obtain ⟨ds0, o0, k⟩ := mOwn_all k
  obtain ⟨a, xs, _, g1, _, _, _, _⟩ := r1.own i _ o0
  refine ⟨.ref a, g1, B0 H0, F1, E, e1.good, r1, Tree.all_mono (fun d' k v' F2 H2 e2 p2 => ?_) (Tree.all_bind.mp k)⟩
  cases d' with
  | int kk =>
    have k : (mOwn i E fun ds => match ixN ds.length kk with | some j => leaf (.nx (E.putOwn i (.lst (ds.set j d)))) | none => fail).all (Post X.K F0 H0 F D0) := k
    obtain ⟨ds, o1, k⟩ := mOwn_all k
    have r2 := r1.ext e2
    cases hj : ixN ds.length kk with
    | none => rw [hj] at k; exact k.elim
    | some j =>
      rw [hj] at k
      obtain ⟨a', xs', ds', z1, zeq, z2, z3, _⟩ := r2.own i _ o1
      cases zeq
      rw [g1] at z1; cases z1
      have rs := z3.set (p1.mono e2.le) j
      obtain ⟨a2, xs2, y1, y2, y3, y4, y5⟩ := own_put (e1.trans e2) r2 o1 rs
      rw [g1] at y1; cases y1
      rw [z2] at y2; cases y2
      cases p2.int
      exact ⟨a, xs', kk, j, rfl, rfl, z2, by rw [z3.length]; exact hj, k σ F2 _ y4 (l1.trans e2.le) y5⟩
  | _ => exact False.elim k
/-- x.append(e), x an own list -/
def oApp (i : Nat) (mv : En → Tree D) : En → Tree Out := fun E => mOwn i E fun _ => (mv E).bind fun v => mOwn i E fun ds => if ds.length < sizeLine then leaf (.nx (E.putOwn i (.lst (ds ++ [v])))) else fail
end
end R

set_option Elab.async false
set_option linter.all false
set_option maxRecDepth 100000
namespace R
open PySem PySem.Spec PyProof.Rows L2
open Tree (leaf fail)
section
variable {X : Cx} {e e2 : Expr} {m m' : En → Tree D} {p p2 q pos pos' : Pos} {x : Str}
/-- x.append(e), x an own list -/
theorem s_app {i : Nat} {px apos cpos : Pos} {mv : En → Tree D} (hv : PE X (.Name x px) (tVar i)) (he : SE X e mv)
    (hb : attributeBase (.Name x px) "append" X.env (eval (.Name x px) X.env) = eval (.Name x px) X.env := by rfl) (hl : (apos.endLine == cpos.line) = true := by rfl)
    (hfew : ((backTo cpos (starEach [e] X.env)).all (fun x => !x.1) && (backToKw cpos (keywordEach [] X.env)).all (fun x => x.1.isSome) && decide (([e] : List Expr).length + ([] : List Keyword).length + (if ([] : List Keyword).isEmpty then 0 else 1) < 30)) = true := by rfl)
    (hs : starEach [e] X.env = (false, eval e X.env) :: starEach [] X.env := by rfl) (hw : swapsWith (.Call (.Attribute (.Name x px) "append" apos) [e] [] cpos) none pos.line X.env = pure false := by rfl) :
    SS X (.Expr (.Call (.Attribute (.Name x px) "append" apos) [e] [] cpos) pos) (oApp i mv) := by
  refine ⟨PS.weak (ps_expr (pe_bm PySem.F.plainAttrs_list PySem.F.slot_list_append PySem.F.type_list_append mt_append hv (pa_cons he.pe pa_nil hs) hb hfew hl hs (by rfl)) hw) fun D0 σ H ⟨F0, H0, F, E, ex, r, q⟩ => ?_⟩
  obtain ⟨ds0, o0, q⟩ := mOwn_all q
  obtain ⟨a, xs, _, g1, _, g3, _, _⟩ := r.own i _ o0
  refine ⟨.ref a, g1, .inl ⟨rfl, xs, .of g3⟩, B0 H0, F, E, ex.good, r, Tree.all_mono (fun d k v F1 H1 e1 p1 => ?_) (Tree.all_bind.mp q)⟩
  obtain ⟨ds, o1, k⟩ := mOwn_all k
  have r1 := r.ext e1
  obtain ⟨a', xs', ds', z1, zeq, z2, z3, _⟩ := r1.own i _ o1
  cases zeq
  rw [g1] at z1; cases z1
  split at k
  · rename_i hlen
    obtain ⟨a2, xs2, y1, y2, y3, y4, y5⟩ := own_put (ex.trans e1) r1 o1 (z3.append (.cons p1 .nil))
    rw [g1] at y1; cases y1
    rw [z2] at y2; cases y2
    exact ⟨a, xs', v, rfl, rfl, z2, by rw [z3.length]; exact hlen, k σ F1 _ y4 e1.le y5⟩
  · exact k.elim

/-! ### keywords -/
structure SK_ (X : Cx) (kws : List Keyword) (m : En → Tree (List D)) : Prop where
  pk : PK X kws (tA X.K m)
theorem sk_nil : SK_ X [] aNil := ⟨⟨fun pos pins s σ H Q I ⟨B, F, E, g, r, q⟩ => pk_nil.run pos pins s σ H Q I (q [] F H (Ext.refl g) .nil)⟩⟩
theorem sk_cons {nm : Option Str} {kpos : Pos} {kws : List Keyword} {n : En → Tree (List D)} (ha : SE X e m) (hr : SK_ X kws n) : SK_ X (⟨nm, e, kpos⟩ :: kws) (aCons m n) :=
  ⟨⟨fun pos pins s σ H Q I ⟨B, F, E, g, r, q⟩ => (pk_cons ha.pe hr.pk).run pos pins s σ H Q I ⟨B, F, E, g, r, Tree.all_mono (fun d k v F1 H1 e1 p1 => ⟨B, F1, E, e1.good, r.ext e1, Tree.all_mono (fun ds k vs F2 H2 e2 p2 => k (v :: vs) F2 H2 (e1.trans e2) (.cons (p1.mono e2.le) p2)) (Tree.all_bind.mp k)⟩) (Tree.all_bind.mp q)⟩⟩⟩
/-- the keywords' values in the parameters' order: is: the place of each parameter among them -/
def permD (is : List Nat) (ds : List D) : List D := is.filterMap fun i => ds[i]?
theorem perm_rep {K : PySem.W.Frag} {F : Fz} {vs : List V} {ds : List D} (r : Reps K F vs ds) : ∀ is : List Nat, Reps K F (is.filterMap fun i => vs[i]?) (is.filterMap fun i => ds[i]?)
  | [] => .nil
  | i :: is => by
    rw [List.filterMap_cons, List.filterMap_cons]
    cases h : vs[i]? with
    | none =>
      have hd : ds[i]? = none := by rw [List.getElem?_eq_none_iff] at h ⊢; rw [← r.length]; exact h
      rw [hd]; exact perm_rep r is
    | some v =>
      obtain ⟨d, h1, h2⟩ := r.get h
      rw [h1]; exact .cons h2 (perm_rep r is)
theorem perm_vals {vs : List V} {us : List Value} (r : Vals vs us) : ∀ is : List Nat, Vals (is.filterMap fun i => vs[i]?) (is.filterMap fun i => us[i]?)
  | [] => .nil
  | i :: is => by
    rw [List.filterMap_cons, List.filterMap_cons]
    cases h : vs[i]? with
    | none => rw [r.none_of h]; exact perm_vals r is
    | some v =>
      obtain ⟨u, h1, h2⟩ := r.get h
      rw [h1]; exact .cons h2 (perm_vals r is)
/-- f(k = v, ..), all by keyword -/
structure KwBinds (K : PySem.W.Frag) (fd : FuncData) (ps ks : List Str) (is : List Nat) : Prop where
  to : ∀ (s : Shared) (ws : List Value), K.In s.heap → (is.filterMap fun i => ws[i]?).length = ps.length → BindsTo s fd ⟨[], ks.zip ws⟩ (ps.zip (is.filterMap fun i => ws[i]?))
theorem se_callKw {k : Nat} {f : Addr} {fd : FuncData} {ps ks : List Str} {fn : List D → Tree D} {kws : List Keyword} {is : List Nat} {mk : En → Tree (List D)} (F : FnOk X.prog X.w X.K X.mg X.base CX0 k f fd ps (spF X.K fn)) (hr : Room k X.A) (hg : Gl X x) (hm : X.mg x = some (.ref f)) (hk : PySem.W.keepIn X.K (.ref f) = true)
    (hb : KwBinds X.K fd ps ks is) (hkw : SK_ X kws mk) (hall : (backToKw pos (keywordEach kws X.env)).all (·.1.isSome) = true := by rfl) (hks : (backToKw pos (keywordEach kws X.env)).filterMap (·.1) = ks := by rfl) (hdb : (x == ("__debug__" : Str)) = false := by decide)
    (hpl : ((backTo pos (starEach [] X.env)).any (·.1) || (backToKw pos (keywordEach kws X.env)).any (·.1.isNone)) = false := by rfl) :
    SE X (.Call (.Name x p) [] kws pos) (mA (fun ds => fn (permD is ds)) mk) := by
  refine ⟨⟨fun pins s σ H Q I ⟨B, F', E, g, rl, q⟩ => ?_⟩⟩
  refine wpAny_Call_Name_kw (ld_glob I hg hm ?_ hdb)
  refine PySem.W.callWith_KW0 (h₀ := X.base) I.ok.mod.kin hk hall (thn (hkw.pk.run pos pins s σ H (fun vs H1 => spF X.K fn (is.filterMap fun i => vs[i]?) H1 Q E0) I ⟨B, F', E, g, rl, Tree.all_mono (fun ds k vs F1 H1 e1 p1 => ?_) (Tree.all_bind.mp q)⟩) fun ws s2 ⟨zs, H2, I2, rz, q2⟩ => ⟨I2.kIn, ?_⟩) hpl
  · exact ⟨F1, permD is ds, e1.good, perm_rep p1 is, Tree.all_mono (fun z kz w F2 H2 e2 rz => kz w F2 H2 (e1.trans e2) rz) k⟩
  · rw [hks]
    have r2 := perm_vals rz is
    have hl := r2.length.symm.trans (F.len _ _ _ _ q2)
    refine wpAny_call (codeAny_mono (F.run X.A X.stack s2 H2 ⟨[], ks.zip ws⟩ _ _ Q E0 hr I2.env0 (hb.to s2 ws I2.kIn hl) r2 q2) fun r s' hq => ?_)
    cases r with
    | error e => exact False.elim hq
    | ok fl =>
      cases fl with
      | ret u => exact I2.after hq
      | next => exact False.elim hq
      | brk => exact False.elim hq
      | cont => exact False.elim hq

/-! ### len(set(x)), distinct ints -/
def nodupB : List Int → Bool
  | [] => true
  | n :: ns => !ns.contains n && nodupB ns
theorem nodup_of : ∀ {ns : List Int}, nodupB ns = true → ns.Nodup
  | [], _ => .nil
  | n :: ns, h => by
    unfold nodupB at h
    rw [Bool.and_eq_true, Bool.not_eq_true'] at h
    exact List.nodup_cons.mpr ⟨fun m => absurd (List.contains_iff_mem.mpr m) (by rw [h.1]; exact Bool.false_ne_true), nodup_of h.2⟩
def fLenSet : D → Tree D
  | .lst ds => withO (intsD ds) fun ns => if (nodupB ns && decide (ns.length ≤ 4000)) = true then leaf (.int ns.length) else fail
  | _ => fail
theorem se_lenset (hg : Gl X "len") (hm : X.mg "len" = none) (hg2 : Gl X "set") (hm2 : X.mg "set" = none) (ha : SP X e m) (hc : X.calm = true := by rfl) (na : starEach [e] X.env = (false, eval e X.env) :: starEach [] X.env := by rfl) :
    SE X (.Call (.Name "len" p) [.Call (.Name "set" p2) [e] [] q] [] pos) (m1 fLenSet m) := by
  refine ⟨PE.weak (RZ.pe_lenSetI hg hm hg2 hm2 ha.pe hc na) fun σ H Q ⟨B, F, E, g, rl, q⟩ => ?_⟩
  refine ⟨B, F, E, g, rl, Tree.all_mono (fun d k v F1 H1 e1 p1 => ?_) (Tree.all_bind.mp q)⟩
  unfold fLenSet at k
  split at k
  · obtain ⟨a, xs, rfl, h1, r1⟩ := p1.lst e1.good
    unfold withO at k
    split at k
    · rename_i ns hn
      have := ints_of hn r1
      subst this
      have k : (if (nodupB ns && decide (ns.length ≤ 4000)) = true then leaf (D.int ns.length) else fail).all _ := k
      by_cases h : (nodupB ns && decide (ns.length ≤ 4000)) = true
      · rw [if_pos h] at k
        rw [Bool.and_eq_true, decide_eq_true_eq] at h
        exact ⟨a, ns, rfl, .of h1, nodup_of h.1, h.2, k _ F1 H1 e1 (.int _)⟩
      · rw [if_neg h] at k
        exact k.elim
    · exact k.elim
  · exact k.elim
/-! ### list(range(..)) -/
def rgOk (n : Int) : Bool := decide (0 ≤ n) && decide (n ≤ 16777216)
theorem rgV_rep {K : PySem.W.Frag} {F : Fz} (i j : Int) : Reps K F (rgV i j) (rangeD i j) := by
  unfold rgV rangeD
  generalize (List.range (j - i).toNat) = l
  induction l with
  | nil => exact .nil
  | cons a l ih => exact .cons (.int _) ih
theorem sl_listrg2 (hc : X.calm = true) (hg : Gl X "list") (hm : X.mg "list" = none) (hg2 : Gl X "range") (hm2 : X.mg "range" = none) (ha : SP X e m) (hb : SP X e2 m') (na : starEach [e, e2] X.env = (false, eval e X.env) :: starEach [e2] X.env := by rfl)
    (nb : starEach [e2] X.env = (false, eval e2 X.env) :: starEach [] X.env := by rfl) (hp : (backTo q (starEach [e2] X.env)).any (·.1) = false := by rfl) (n1 : starEach [.Call (.Name "range" p2) [e, e2] [] q] X.env = (false, eval (.Call (.Name "range" p2) [e, e2] [] q) X.env) :: starEach [] X.env := by rfl) :
    SL X (.Call (.Name "list" p) [.Call (.Name "range" p2) [e, e2] [] q] [] pos) (fun E => (m E).bind fun d => (m' E).bind fun d' => match d, d' with
      | .int i, .int j => if (rgOk i && rgOk j) = true then leaf (rangeD i j) else fail
      | _, _ => fail) := by
  refine ⟨PE.weak (pe_listRg hc hg hm (prg_2 hg2 hm2 ha.pe hb.pe na nb hp) n1) fun σ H Q ⟨B, F, E, g, rl, q⟩ => ?_⟩
  refine ⟨B, F, E, g, rl, Tree.all_mono (fun d k v F1 H1 e1 p1 => ⟨B, F1, E, e1.good, rl.ext e1, Tree.all_mono (fun d' k v' F2 H2 e2 p2 => ?_) (Tree.all_bind.mp k)⟩) (Tree.all_bind.mp q)⟩
  have p1 := p1.ext e2
  cases d with
  | int i =>
    cases d' with
    | int j =>
      cases p1.int
      cases p2.int
      have k : (if (rgOk i && rgOk j) = true then leaf (rangeD i j) else fail).all _ := k
      by_cases h : (rgOk i && rgOk j) = true
      · rw [if_pos h] at k
        unfold rgOk at h
        simp only [Bool.and_eq_true, decide_eq_true_eq] at h
        refine ⟨i, j, rfl, rfl, RgOk.of_le h.1.1 h.2.2 h.1.2 h.2.1, fun l hl => ?_⟩
        have f := e2.good.free hl
        exact k l _ F2 _ ((e1.trans e2).trans (Ext.new e2.good hl)) upd_same f.1 f.2 (ext_none g (e1.trans e2) hl) (rgV_rep i j)
      · rw [if_neg h] at k
        exact k.elim
    | _ => exact False.elim k
  | _ => exact False.elim k
end
/-! ### pots -/
section
variable {X : Cx} {e : Expr} {pos : Pos}
/-- return [p, q]: the list becomes a pot -/
def oPot (ml : En → Tree (List D)) : En → Tree Out := fun E => (ml E).bind fun ds => match ds with
  | [.int p, .int q] => if (decide (0 ≤ p) && decide (0 ≤ q) && decide (q < 4294967296)) = true then leaf (.rt .pot) else fail
  | _ => fail
theorem s_retpot {ml : En → Tree (List D)} (he : SL X e ml) : SS X (.Return (some e) pos) (oPot ml) := by
  refine ⟨PS.weak (ps_ret he.pe) fun D0 σ H ⟨F0, H0, F, E, ex, r, q⟩ => ?_⟩
  refine ⟨B0 H0, F, E, ex.good, r, Tree.all_mono (fun ds k a xs F1 H1 e1 ha n t h0 rs => ?_) (Tree.all_bind.mp q)⟩
  split at k
  · split at k
    · rename_i h
      simp only [Bool.and_eq_true, decide_eq_true_eq] at h
      have e2 := ex.trans e1
      have hz : NT H0 a := by
        by_cases t0 : F0.T a
        · exact absurd (e2.monoT _ t0) t
        · exact ex.back h0 t0
      cases rs with
      | cons r1 rs =>
        cases rs with
        | cons r2 rs =>
          cases rs
          cases r1
          cases r2
          refine k (.ref a) ⟨F1.P, fun b => F1.T b ∨ b = a⟩ H1 ⟨⟨e2.good.sub, fun b hb => ?_, e2.good.nt, e2.good.tab, e2.good.cod⟩, e2.mono, fun b hb => .inl (e2.monoT b hb), e2.keep, fun b hb => ?_⟩ ⟨e1.mono, fun b hb => .inl (e1.monoT b hb)⟩ (.pot (.inr rfl))
          · rcases hb with hb | hb
            · exact e2.good.pot b hb
            · subst hb; exact ⟨n, _, _, ha, h.1.1, h.1.2, h.2⟩
          · rcases hb with hb | hb | hb
            · exact e2.fresh b (.inl hb)
            · exact e2.fresh b (.inr hb)
            · subst hb; exact .inr (.inr hz)
    · exact k.elim
  · exact k.elim
def fDraw : List D → Tree D
  | [.pot, .int n] => if (decide (0 < n) && decide (n.natAbs.log2 < 9000)) = true then .draw n.toNat fun i => leaf (.int i) else fail
  | _ => fail
theorem fDraw_len {K : PySem.W.Frag} : ∀ vs H Q E, spF K fDraw vs H Q E → vs.length = 2 := fun vs H Q E ⟨F, ds, g, r, q⟩ => by
  unfold fDraw at q
  split at q
  · exact r.length
  · exact q.elim
/-- a pot's list is changed -/
theorem Ext.pot {F : Fz} {H : Hp} {a : Addr} {p q : Int} (g : Good F H) (t : F.T a) (h0 : 0 ≤ p) (h1 : 0 ≤ q) (h2 : q < 4294967296) : Ext F H F (upd H a (.lst [.int p, .int q])) := by
  have n := (g.pot a t).1
  obtain ⟨p0, q0, hl, _⟩ := (g.pot a t).2
  refine ⟨⟨fun b o h => ?_, fun b tb => ?_, g.nt, tabs_stay g.tab fun b u h nl => ?_, fun f ob h q ps b sc cl pm c ctv z => ?_⟩, Same.refl _, fun _ h => h, fun b o h nt _ => ?_, fun b h => h.elim .inl fun z => .inr (.inl z)⟩
  · rw [upd_ne (ne_of_none h n)]; exact g.sub b o h
  · by_cases e : b = a
    · subst e; exact ⟨n, p, q, upd_same, h0, h1, h2⟩
    · rw [upd_ne e]; exact g.pot b tb
  · rw [upd_ne (fun z : b = a => by rw [z, hl] at h; cases h; exact nl _ rfl)]; exact h
  · have k := g.cod f ob h q ps b sc cl pm c ctv z
    rw [upd_ne (fun z2 : c = a => by rw [z2, hl] at k; exact (codeO_ext (Option.some.inj k)).1 _ rfl)]; exact k
  · rw [upd_ne (fun e : b = a => nt (by rw [e]; exact t))]; exact h
theorem fDraw_of {K : PySem.W.Frag} {vs : List V} {H : Hp} {Q : VK} {E : XK} (h : spF K fDraw vs H Q E) : ∃ (a : Addr) (n p q : Int), vs = [.ref a, .int n] ∧ H a = some (.lst [.int p, .int q]) ∧ 0 ≤ p ∧ 0 ≤ q ∧ q < 4294967296 ∧ 0 < n ∧ n.natAbs.log2 < 9000 ∧
    ∀ (H' : Hp) (p' q' i : Int), 0 ≤ p' → 0 ≤ q' → q' < 4294967296 → 0 ≤ i → i < n → (∃ T x, H' = upd (upd H T x) a (.lst [.int p', .int q']) ∧ H T = none ∨ H' = upd H a (.lst [.int p', .int q'])) → Q (.int i) H' := by
  obtain ⟨F, ds, g, r, q⟩ := h
  unfold fDraw at q
  split at q
  · split at q
    · rename_i hn
      rw [Bool.and_eq_true, decide_eq_true_eq, decide_eq_true_eq] at hn
      cases r with
      | cons r1 r =>
        cases r with
        | cons r2 r =>
          cases r
          cases r1 with
          | pot t =>
            cases r2
            obtain ⟨nP, p0, q0, hp, h0, h1, h2⟩ := g.pot _ t
            refine ⟨_, _, p0, q0, rfl, hp, h0, h1, h2, hn.1, hn.2, fun H' p' q' i b1 b2 b3 b4 b5 hH => ?_⟩
            have hi := q i.toNat (by omega)
            have hi : ∀ v F' H', Ext F H F' H' → Rep K F' v (.int ((i.toNat : Nat) : Int)) → Q v H' := hi
            rw [Int.toNat_of_nonneg b4] at hi
            obtain ⟨T, x, ⟨e, nT⟩ | e⟩ := hH
            · subst e
              exact hi _ F _ ((Ext.new g nT).trans (Ext.pot (g.new nT) t b1 b2 b3)) (.int i)
            · subst e
              exact hi _ F _ (Ext.pot g t b1 b2 b3) (.int i)
    · exact q.elim
  · exact q.elim
end
end R

set_option Elab.async false
set_option linter.all false
set_option maxRecDepth 100000
namespace R
open PySem PySem.Spec PyProof.Rows L2
open Tree (leaf fail)
section
variable {X : Cx} {e : Expr} {m : En → Tree D} {p pos : Pos} {x : Str}
def opNeg : D → Tree D
  | .int i => leaf (.int (-i))
  | _ => fail
theorem se_neg (ha : SP X e m) : SE X (.UnaryOp .USub e pos) (m1 opNeg m) := by
  refine ⟨PE.weak (pe_un un_neg ha.pe) fun σ H Q ⟨B, F, E, g, rl, q⟩ => ?_⟩
  refine ⟨B, F, E, g, rl, Tree.all_mono (fun d k v F1 H1 e1 p1 => ?_) (Tree.all_bind.mp q)⟩
  cases d with
  | int i => exact ⟨i, p1.int, k _ F1 H1 e1 (.int _)⟩
  | _ => exact False.elim k
def oPar3 (i j l : Nat) (ma : En → Tree (List D)) : En → Tree Out := fun E => (ma E).bind fun ds => match ds with
  | [a, b, c] => leaf (.nx (((E.put i a).put j b).put l c))
  | _ => fail
theorem s_par3 {st : Stmt} {i j l : Nat} {ta : TA} {ma : En → Tree (List D)} (h : PS X st (tPar3 i j l ta)) (w : ∀ σ H Q, tA X.K ma σ H Q → ta σ H Q) : SS X st (oPar3 i j l ma) := by
  refine ⟨PS.weak h fun D0 σ H ⟨F0, H0, F, E, e, r, q⟩ => w _ _ _ ?_⟩
  refine ⟨B0 H0, F, E, e.good, r, Tree.all_mono (fun ds k vs F' H' e' p => ?_) (Tree.all_bind.mp q)⟩
  cases p with
  | nil => exact False.elim k
  | cons p1 p =>
    cases p with
    | nil => exact False.elim k
    | cons p2 p =>
      cases p with
      | nil => exact False.elim k
      | cons p3 p =>
        cases p with
        | nil => exact ⟨_, _, _, rfl, k _ F' H' (e.trans e') e'.le ((((r.ext e').put i p1).put j p2).put l p3)⟩
        | cons _ _ => exact False.elim k
end
/-! ### defs by name -/
structure CalR (P : Program) (w : World) (K : PySem.W.Frag) (mg : Str → Option Value) (base : Heap) (k : Nat) (x : Str) (fn : List D → Tree D) : Prop where
  ex : ∃ (f : Addr) (fd : FuncData) (ps : List Str), FnOk P w K mg base CX0 k f fd ps (spF K fn) ∧ mg x = some (.ref f) ∧ PySem.W.keepIn K (.ref f) = true ∧ Binds K fd ps []
structure CalK (P : Program) (w : World) (K : PySem.W.Frag) (mg : Str → Option Value) (base : Heap) (k : Nat) (x : Str) (fn : List D → Tree D) (ks : List Str) (is : List Nat) : Prop where
  ex : ∃ (f : Addr) (fd : FuncData) (ps : List Str), FnOk P w K mg base CX0 k f fd ps (spF K fn) ∧ mg x = some (.ref f) ∧ PySem.W.keepIn K (.ref f) = true ∧ KwBinds K fd ps ks is
structure ConR (K : PySem.W.Frag) (mg : Str → Option Value) (x : Str) (d : D) : Prop where
  ex : ∃ v u, mg x = some u ∧ RelV v u ∧ ∀ F, Rep K F v d
/-- where a def stands behind the top -/
structure At (K : PySem.W.Frag) (mg : Str → Option Value) (x : Str) (st : Stmt) : Prop where
  ex : ∃ (f : Addr) (fd : FuncData), Fun K x x st f fd ∧ mg x = some (.ref f)
section
variable {X : Cx} {k j : Nat} {x : Str} {fn : List D → Tree D} {p pos : Pos} {e : Expr} {es : List Expr} {ma : En → Tree (List D)}
theorem se_c (c : CalR X.prog X.w X.K X.mg X.base k x fn) (hr : Room j X.A) (hk : k ≤ j) (hg : Gl X x) (ha : SA X (e :: es) ma) (hdb : (x == ("__debug__" : Str)) = false := by decide)
    (he : starEach (e :: es) X.env = (false, eval e X.env) :: starEach es X.env := by rfl) (hpl : (backTo pos (starEach es X.env)).any (·.1) = false := by rfl) : SE X (.Call (.Name x p) (e :: es) [] pos) (mA fn ma) := by
  obtain ⟨f, fd, ps, F, hm, kp, b⟩ := c.ex
  exact se_call F (hr.mono hk) hg hm kp b ha hdb he hpl
theorem se_k {ks : List Str} {is : List Nat} {kws : List Keyword} {mk : En → Tree (List D)} (c : CalK X.prog X.w X.K X.mg X.base k x fn ks is) (hr : Room j X.A) (hk : k ≤ j) (hg : Gl X x) (hkw : SK_ X kws mk)
    (hall : (backToKw pos (keywordEach kws X.env)).all (·.1.isSome) = true := by rfl) (hks : (backToKw pos (keywordEach kws X.env)).filterMap (·.1) = ks := by rfl) (hdb : (x == ("__debug__" : Str)) = false := by decide)
    (hpl : ((backTo pos (starEach [] X.env)).any (·.1) || (backToKw pos (keywordEach kws X.env)).any (·.1.isNone)) = false := by rfl) : SE X (.Call (.Name x p) [] kws pos) (mA (fun ds => fn (permD is ds)) mk) := by
  obtain ⟨f, fd, ps, F, hm, kp, b⟩ := c.ex
  exact se_callKw F (hr.mono hk) hg hm kp b hkw hall hks hdb hpl
theorem se_con {d : D} (c : ConR X.K X.mg x d) (hg : Gl X x) (hd : (x == ("__debug__" : Str)) = false := by decide) : SE X (.Name x pos) (fun _ => leaf d) := by
  obtain ⟨v, u, hm, r, rp⟩ := c.ex
  exact se_of (pe_glob hg hm r hd) rp
theorem se_ty {T : String} (hg : Gl X x) (hm : X.mg x = none) (hv : bootBuiltins x = some (.type T)) (hn : x ≠ "__name__" := by decide) (hd : (x == ("__debug__" : Str)) = false := by decide) : SE X (.Name x pos) (fun _ => leaf (.ty T)) :=
  se_of (pe_bltn (v := .ty T) hg hm hv rfl hn hd) fun _ => .ty T
end
section
variable {P : Program} {w : World} {K : PySem.W.Frag} {mg : Str → Option Value} {base : Heap}
theorem cal_mk {x : Str} {st : Stmt} {fn : List D → Tree D} {k : Nat} {ps : List Str} (a : At K mg x st) (c : ∀ f fd, Fun K x x st f fd → FnOk P w K mg base CX0 k f fd ps (spF K fn))
    (hb : ∀ (kV doc pm : Value) (an : Option Addr) (cdv ct : Value) (us : List Value), us.length = ps.length → bindArgs (PySem.W.fnOf x x (defArgs st) (defBody st) (defScope st) .none kV doc pm an cdv ct) ⟨us, []⟩ = pure (ps.zip us)) : CalR P w K mg base k x fn := by
  obtain ⟨f, fd, F, hm⟩ := a.ex
  exact ⟨f, fd, ps, c f fd F, hm, F.kp, F.binds hb⟩
theorem kw_of {x : Str} {st : Stmt} {fn : List D → Tree D} {k : Nat} {ps ks : List Str} {is : List Nat} (a : At K mg x st) (c : ∀ f fd, Fun K x x st f fd → FnOk P w K mg base CX0 k f fd ps (spF K fn))
    (hb : ∀ (kV doc pm : Value) (an : Option Addr) (cdv ct : Value) (ws : List Value), (is.filterMap fun i => ws[i]?).length = ps.length → bindArgs (PySem.W.fnOf x x (defArgs st) (defBody st) (defScope st) .none kV doc pm an cdv ct) ⟨[], ks.zip ws⟩ = pure (ps.zip (is.filterMap fun i => ws[i]?))) :
    CalK P w K mg base k x fn ks is := by
  obtain ⟨f, fd, F, hm⟩ := a.ex
  have F0 := F
  obtain ⟨oc, od, kV, doc, pm, an, cdv, ct, osl, e, lk, hcd⟩ := F.ex
  refine ⟨f, fd, ps, c f fd F0, hm, F.kp, ⟨fun s ws _ hl => ?_⟩⟩
  rw [e]
  exact .of_eq (hb kV doc pm an cdv ct ws hl)
theorem at_of {x : Str} {st : Stmt} {h : Heap} {f : Addr} {oc kV dc pm cd ct : Value} {od an : Option Addr} {sl : Array (Option Value)} (X : K.In h) (G : h.Ns mainGlobals mg)
    (a : PySem.W.nsIn K mainGlobals x = some (some (.ref f))) (l : K.lookup f = some ⟨oc, od, .func (PySem.W.fnOf x x (defArgs st) (defBody st) (defScope st) .none kV dc pm an cd ct), sl⟩) (c : PySem.W.codeIn K cd x = true) (k : PySem.W.keepIn K (.ref f) = true) : At K mg x st :=
  ⟨f, _, fun_mk l c k, PySem.W.mg_of X G a⟩
theorem con_int {x : Str} {h : Heap} {i : Int} {t : Tok} (X : K.In h) (G : h.Ns mainGlobals mg) (a : PySem.W.nsIn K mainGlobals x = some (some (.int i t))) : ConR K mg x (.int i) :=
  ⟨.int i, _, PySem.W.mg_of X G a, ⟨t, rfl⟩, fun _ => .int i⟩
/-- a pair of ints of the module -/
theorem con_pair {x : Str} {h : Heap} {i j : Int} {t u : Tok} {ad : Addr} {dd : Option Addr} {n : Nat} {sl : Array (Option Value)} (X : K.In h) (G : h.Ns mainGlobals mg) (a : PySem.W.nsIn K mainGlobals x = some (some (.ref ad)))
    (l : K.lookup ad = some ⟨.type "tuple", dd, .seq #[.int i t, .int j u] n, sl⟩) : ConR K mg x (.tup [.int i, .int j]) :=
  ⟨.ref ad, _, PySem.W.mg_of X G a, rfl, fun F => .tup (xs := [.int i, .int j]) (.inr ⟨_, _, n, l, rfl, rfl, by show 2 ≤ sizeLine; decide, .cons ⟨_, rfl⟩ (.cons ⟨_, rfl⟩ .nil)⟩) (.cons (.int i) (.cons (.int j) .nil))⟩
theorem con_loose {q : Program} {lv : List (Str × PySem.W.WData)} {h : Heap} {x : Str} {i : Int} (X : PySem.W.XL q lv mg h) (hm : (x, PySem.W.WData.int i) ∈ lv) : ConR K mg x (.int i) := by
  obtain ⟨v, h1, h2⟩ := X.2.val _ hm
  cases h2
  exact ⟨.int i, _, h1, ⟨_, rfl⟩, fun _ => .int i⟩
end
end R
namespace R
theorem noPy {i j : Int} (h : j.natAbs.log2 < 9000) : PySem.Builtin.divisionGoesByPylong i j = false := PyProof.noPylong_of_log2 h
end R

set_option Elab.async false
set_option linter.all false
set_option maxRecDepth 100000
set_option maxHeartbeats 1000000
/-! the guards' state is carried along: what repr of a container asks -/
namespace R
open PySem PySem.Spec PyProof.Rows L2
open Tree (leaf fail)
def Gd (A : Around) : Prop := A.guards = some []
/-- a def's promise where nothing stands on the guards' pile -/
structure FnG (P : Program) (w : World) (K : PySem.W.Frag) (mg : Str → Option Value) (base : Heap) (k : Nat) (f : Addr) (fd : FuncData) (ps : List Str) (sp : Sp) : Prop where
  many : ∀ vs H Q E, sp vs H Q E → vs.length = ps.length
  goes : ∀ (A : Around) (over : List Env) (s : Shared) (H : Hp) (args : Args) (us : List Value) (vs : List V) (Q : VK) (E : XK), Gd A → Room k A → Env0 P w K mg base A over s H →
    BindsTo s fd args (ps.zip us) → Vals vs us → sp vs H Q E → codeAny (model P w) A (.call (.ref f) args) (CR CX0 over P w H s Q E) s
theorem FnG.of {P : Program} {w : World} {K : PySem.W.Frag} {mg : Str → Option Value} {base : Heap} {k : Nat} {f : Addr} {fd : FuncData} {ps : List Str} {sp : Sp} (F : FnOk P w K mg base CX0 k f fd ps sp) : FnG P w K mg base k f fd ps sp :=
  ⟨F.len, fun A over s H args us vs Q E _ => F.run A over s H args us vs Q E⟩
section
variable {X : Cx}
/-- repr of data without dicts -/
def rReprP (K : PySem.W.Frag) : List V → Hp → VK → Prop := fun xs H Q => ∃ v d, xs = [v] ∧ Dp K H v d ∧ d.showable = true ∧ d.hasDict = false ∧ d.depth ≤ 60 ∧ d.shown.length ≤ sizeLine ∧ Q (.str d.shown) H
theorem cr_reprP (hG : Gd X.A) (hu : X.A.units + 64 < cLine) : CallR X (.builtin "repr") (rReprP X.K) := by
  intro pins s σ H xs us Q I r h
  obtain ⟨v, d, rfl, dp, hs, hd, hdp, hl, q⟩ := h
  obtain ⟨u, rfl, rv⟩ := vals1 r
  obtain ⟨as, rd⟩ := Dp.reads I d v u dp rv
  cases d with
  | none => cases dp; cases rv; exact PySem.P.repr_of_none ⟨.str _, H, I.tok _, ⟨_, rfl⟩, q⟩
  | bool b => cases dp; cases rv; exact PySem.P.repr_of_bool ⟨.str _, H, I.tok _, ⟨_, rfl⟩, q⟩
  | int i => cases dp; obtain ⟨t, rfl⟩ := rv; exact PySem.P.repr_of_int (by simpa [PyData.showable] using hs) ⟨.str _, H, I.tok _, ⟨_, rfl⟩, q⟩
  | str x => cases dp; obtain ⟨t, rfl⟩ := rv; exact PySem.P.repr_of_str ⟨.str _, H, I.tok _, ⟨_, rfl⟩, q⟩ hl
  | list ds =>
    cases dp with
    | lst _ _ =>
      cases rv
      exact repr_of_reads' rd hs (PyData.noDict_hsm hd) hG (by omega) (fun _ _ e => e) (fun h' t tk k => ⟨.str _, H, I.kept k, ⟨t, rfl⟩, q⟩) hl
  | tuple ds =>
    cases dp with
    | tup _ _ =>
      cases rv
      exact repr_of_reads' rd hs (PyData.noDict_hsm hd) hG (by omega) (fun _ _ e => e) (fun h' t tk k => ⟨.str _, H, I.kept k, ⟨t, rfl⟩, q⟩) hl
  | dict _ => cases dp
def rReprD : List V → Hp → VK → Prop := fun xs H Q => ∃ a, xs = [.ref a] ∧ H a = some (.dK []) ∧ Q (.str "{}") H
theorem cr_reprD (hG : Gd X.A) (hu : X.A.units + 64 < cLine) : CallR X (.builtin "repr") rReprD := by
  intro pins s σ H xs us Q I r h
  obtain ⟨a, rfl, ha, q⟩ := h
  obtain ⟨u, rfl, rv⟩ := vals1 r
  cases rv
  obtain ⟨_, hsm, vs, kv, o, es, ep, ho, hx, hd, _, hp, _⟩ := dk_of I.hok ha
  cases kv
  have he : es.toList = [] := by
    generalize es.toList = l at hp
    cases hp; rfl
  have rd : Reads s.heap (.ref a) (.dict []) ([a] ++ []) := .dict ho hx.1 hd (by rw [he]; exact .nil) (by rw [he]; exact .nil)
  exact repr_of_reads' rd (by decide +kernel) (fun _ hm => by
    have : sysModules = a := by simpa using hm
    rw [this] at hsm
    simp at hsm) hG (by rw [show (PyData.dict []).depth = 1 by decide +kernel]; omega) (fun _ _ e => e) (fun h' t tk k => ⟨.str _, H, I.kept k, ⟨t, rfl⟩, q⟩) (by decide +kernel)
def rRepr (K : PySem.W.Frag) : List V → Hp → VK → Prop := fun xs H Q => rReprP K xs H Q ∨ rReprD xs H Q
theorem cr_repr (hG : Gd X.A) (hu : X.A.units + 64 < cLine) : CallR X (.builtin "repr") (rRepr X.K) := CallR.or (cr_reprP hG hu) (cr_reprD hG hu)
end
section
variable {P : Program} {w : World} {K : PySem.W.Frag} {mg : Str → Option Value} {base : Heap}
/-- a def's promise by its body's reading, the guards' state known -/
theorem fnG_body {x qual : Str} {st : Stmt} {f : Addr} {fd : FuncData} {N ps : List Str} {k : Nat} {sp : Sp} (F : Fun K x qual st f fd) (S : FnScope N ps (defScope st))
    (many : ∀ vs H Q E, sp vs H Q E → vs.length = ps.length)
    (hb : ∀ (cdv : Value) (A : Around) (over : List Env) (s : Shared) (H : Hp) (vs : List V) (Q : VK) (E : XK), fd.code = cdv → Gd A → Room k (A.deeper (envOfC qual (defScope st) s.heap.objs.size f cdv)) →
      sp vs H Q E → ∃ t, PSs (cxOf CX0 P w K mg base N qual (defScope st) f cdv A over s H E).nox (defBody st) t ∧
        t { nx := fun _ H' => Q .non H', rt := Q } (start N vs) H) : FnG P w K mg base (k + 1) f fd ps sp := by
  obtain ⟨oc, od, kV, dc, pm, an, cdv, ct, sl, rfl, lk, hcd⟩ := F.ex
  refine ⟨many, fun A over s H args us vs Q E hG hr e0 bd r hsp => ?_⟩
  have n1 := many _ _ _ _ hsp
  have inK : K.In s.heap := e0.mod.kin.keeps fun b o e => (e0.bs b o e).1
  have room := e0.mod.nolimit.keeps (h' := s.heap) fun b o e => (e0.bs b o e).1
  have names : ∀ y ∈ ps.zip us, (defScope st).names.lookup y.1 = some .local ∨
      ((defScope st).names.lookup y.1 = some .cell ∧ ((cellsFrom (s.heap.objs.size + 1) (defScope st).names []).lookup y.1).isSome = true) := by
    intro ⟨n, v⟩ hy
    exact (S.par n (List.of_mem_zip hy).1).imp id fun q => ⟨q, PySem.W.cellsFrom_some _ _ _ (.inl q)⟩
  refine codeAny_call_function hr.depth (inK _ _ lk) rfl S.co S.gen rfl
    (PySem.W.codeRec_of inK hcd) (bd _ _ _ _ ?_)
  refine wpAny_newFunctionEnv_cells S.kind names
    fun env he s1 y => ?_
  cases he
  refine ⟨room.keeps y.toInCall.keep, codeAny_func ?_⟩
  obtain ⟨t, ht, hq⟩ := hb cdv A over s H vs Q E rfl hG (hr.deeper _) hsp
  have J := inv_start (CX := CX0) (E := E) S hr.hd e0 n1 r y
  refine wpAny_mono (ht.nox.run [] s1 (start N vs) H _ J hq)
    (fun fl s' hs => ?_) fun e s' hs => hs
  cases fl with
  | brk => obtain ⟨_, _, _, no⟩ := hs; cases no
  | cont => obtain ⟨_, _, _, no⟩ := hs; cases no
  | ret u =>
    obtain ⟨v, _, H', J', rv, q⟩ := hs
    exact ⟨v, H', J'.os, J'.bare, J'.base, J'.hok, rv, q⟩
  | next =>
    obtain ⟨_, H', J', q⟩ := hs
    exact ⟨V.non, H', J'.os, J'.bare, J'.base, J'.hok, rfl, q⟩
theorem def_okG {x qual : Str} {st : Stmt} {f : Addr} {fd : FuncData} {N ps : List Str} {k : Nat} {m : En → Tree Out} (np n : Nat) (F : Fun K x qual st f fd) (S : FnScope N ps (defScope st)) (hn : N.length = n) (hp : ps.length = np)
    (hbody : ∀ (cdv : Value) (A : Around) (outer : List Env) (s : Shared) (H : Hp) (E : XK), fd.code = cdv → Gd A → Room k (A.deeper (envOfC qual (defScope st) s.heap.objs.size f cdv)) →
      SSs (cxOf CX0 P w K mg base N qual (defScope st) f cdv A outer s H E).nox (defBody st) m) : FnG P w K mg base (k + 1) f fd ps (spF K (mDef np n m)) := by
  subst hn hp
  refine fnG_body F S (fun vs H Q E h => spF_len vs H Q E h) (fun cdv A outer s H vs Q E hcv hG hr h => ?_)
  obtain ⟨F, ds, g, r, q⟩ := h
  refine ⟨_, (hbody cdv A outer s H E hcv hG hr).ps, F, H, F, En.start N.length ds, Ext.refl g, rel_start r N, ?_⟩
  unfold mDef at q
  split at q
  · refine Tree.all_mono (fun o k => ?_) (Tree.all_bind.mp q)
    cases o with
    | nx E => exact fun σ' F' H' e l r => k .non F' H' e .non
    | rt d => exact fun v F' H' e l r => k v F' H' e r
    | bk E => exact False.elim k
    | ct E => exact False.elim k
  · exact q.elim
end
section
variable {X : Cx} {k : Nat} {f : Addr} {fd : FuncData} {ps : List Str} {x : Str} {fn : List D → Tree D} {p pos : Pos} {e : Expr} {es : List Expr} {ma : En → Tree (List D)}
theorem goG {pins : List (Addr × Obj)} {σ : L2.St} {H : Hp} {s : Shared} {Q : VK} {vs : List V} {sp : Sp} {args : Args} {zs : List Value} (F : FnG X.prog X.w X.K X.mg X.base k f fd ps sp) (hG : Gd X.A) (hr : Room k X.A)
    (I : Inv X pins σ H s) (bd : BindsTo s fd args (ps.zip zs)) (r : Vals vs zs) (h : sp vs H Q E0) : codeAny (model X.prog X.w) X.A (.call (.ref f) args) (fun r s' => match r with
      | .ok (.ret u) => EP X pins σ Q u s'
      | _ => False) s := by
  refine codeAny_mono (F.goes X.A X.stack s H args zs vs Q E0 hG hr I.env0 bd r h) fun r s' hq => ?_
  cases r with
  | error e => exact False.elim hq
  | ok fl =>
    cases fl with
    | ret u => exact I.after hq
    | next => exact False.elim hq
    | brk => exact False.elim hq
    | cont => exact False.elim hq
theorem se_callG (F : FnG X.prog X.w X.K X.mg X.base k f fd ps (spF X.K fn)) (hG : Gd X.A) (hr : Room k X.A) (hg : Gl X x) (hm : X.mg x = some (.ref f)) (hk : PySem.W.keepIn X.K (.ref f) = true) (hb : Binds X.K fd ps [])
    (ha : SA X (e :: es) ma) (hdb : (x == ("__debug__" : Str)) = false := by decide) (he : starEach (e :: es) X.env = (false, eval e X.env) :: starEach es X.env := by rfl) (hpl : (backTo pos (starEach es X.env)).any (·.1) = false := by rfl) :
    SE X (.Call (.Name x p) (e :: es) [] pos) (mA fn ma) := by
  refine ⟨PE.weak (t := fun σ H Q => tA X.K ma σ H fun vs H1 => spF X.K fn vs H1 Q E0) ⟨fun pins s σ H Q I h => ?_⟩ fun σ H Q ⟨B, F, E, g, rl, q⟩ => ?_⟩
  · refine wpAny_Call_Name_kw (ld_glob I hg hm ?_ hdb)
    refine PySem.W.callWith_K (h₀ := X.base) I.ok.mod.kin hk (thn (ha.pa.run pos pins s σ H _ I h) fun us s1 ⟨vs, H1, I1, r, q⟩ => ⟨I1.kIn, ?_⟩) he hpl
    have hl := r.length.symm.trans (F.many _ _ _ _ q)
    have bd := hb s1 us I1.kIn (by rw [List.append_nil]; exact hl)
    rw [List.append_nil] at bd
    refine wpAny_call (codeAny_mono (goG F hG hr I1 bd r q) fun r s' hq => ?_)
    cases r with
    | error e => exact False.elim hq
    | ok fl =>
      cases fl with
      | ret u => exact hq
      | next => exact False.elim hq
      | brk => exact False.elim hq
      | cont => exact False.elim hq
  · exact ⟨B, F, E, g, rl, Tree.all_mono (fun ds k vs F1 H1 e1 p1 => ⟨F1, ds, e1.good, p1, Tree.all_mono (fun z kz w F2 H2 e2 rz => kz w F2 H2 (e1.trans e2) rz) k⟩) (Tree.all_bind.mp q)⟩
theorem se_callKwG {ks : List Str} {kws : List Keyword} {is : List Nat} {mk : En → Tree (List D)} (F : FnG X.prog X.w X.K X.mg X.base k f fd ps (spF X.K fn)) (hG : Gd X.A) (hr : Room k X.A) (hg : Gl X x) (hm : X.mg x = some (.ref f)) (hk : PySem.W.keepIn X.K (.ref f) = true)
    (hb : KwBinds X.K fd ps ks is) (hkw : SK_ X kws mk) (hall : (backToKw pos (keywordEach kws X.env)).all (·.1.isSome) = true := by rfl) (hks : (backToKw pos (keywordEach kws X.env)).filterMap (·.1) = ks := by rfl) (hdb : (x == ("__debug__" : Str)) = false := by decide)
    (hpl : ((backTo pos (starEach [] X.env)).any (·.1) || (backToKw pos (keywordEach kws X.env)).any (·.1.isNone)) = false := by rfl) :
    SE X (.Call (.Name x p) [] kws pos) (mA (fun ds => fn (permD is ds)) mk) := by
  refine ⟨⟨fun pins s σ H Q I ⟨B, F', E, g, rl, q⟩ => ?_⟩⟩
  refine wpAny_Call_Name_kw (ld_glob I hg hm ?_ hdb)
  refine PySem.W.callWith_KW0 (h₀ := X.base) I.ok.mod.kin hk hall (thn (hkw.pk.run pos pins s σ H (fun vs H1 => spF X.K fn (is.filterMap fun i => vs[i]?) H1 Q E0) I ⟨B, F', E, g, rl, Tree.all_mono (fun ds k vs F1 H1 e1 p1 => ?_) (Tree.all_bind.mp q)⟩) fun ws s2 ⟨zs, H2, I2, rz, q2⟩ => ⟨I2.kIn, ?_⟩) hpl
  · exact ⟨F1, permD is ds, e1.good, perm_rep p1 is, Tree.all_mono (fun z kz w F2 H2 e2 rz => kz w F2 H2 (e1.trans e2) rz) k⟩
  · rw [hks]
    have r2 := perm_vals rz is
    have hl := r2.length.symm.trans (F.many _ _ _ _ q2)
    refine wpAny_call (codeAny_mono (goG F hG hr I2 (hb.to s2 ws I2.kIn hl) r2 q2) fun r s' hq => ?_)
    cases r with
    | error e => exact False.elim hq
    | ok fl =>
      cases fl with
      | ret u => exact hq
      | next => exact False.elim hq
      | brk => exact False.elim hq
      | cont => exact False.elim hq
end
end R

namespace R
open PySem PySem.Spec PyProof.Rows L2
/-- what is known of the tables at the law's start -/
structure TbF (K : PySem.W.Frag) (h : Heap) : Prop where
  nil : ∀ x ∈ TBC, h.get? x.2.1 = some { cls := .none, data := .fields #[] }
  out : ∀ x ∈ TBC, K.lookup x.2.1 = none
  cod : ∀ x ∈ TBC, PySem.W.CodeHd h x.1 x.2.1
theorem TbF.none {K : PySem.W.Frag} {h : Heap} (e : TBC = []) : TbF K h := by
  constructor <;> (intro x hx; rw [e] at hx; cases hx)
def isTb (b : Addr) : Prop := ∃ x ∈ TBC, x.2.1 = b
/-- the law's call, by a promise that knows the guards -/
theorem law_callG {P : Program} {w : World} {K : PySem.W.Frag} {mg mb : Str → Option Value} {k : Nat} {fa a : Addr}
    {fd : FuncData} {x : Str} {sp : Sp} {s₁ : Shared} {us : List Value} {ns : List Int}
    (kin : K.In s₁.heap) (hmg : s₁.heap.Ns mainGlobals mg) (hmb : s₁.heap.Ns builtinsNs mb)
    (boot : ∀ x : Str, x ≠ "__name__" → mb x = bootBuiltins x) (noLim : s₁.heap.NoLimit) (gen : s₁.gens = #[]) (tb : TbF K s₁.heap)
    (bmod : ∃ (m : Addr) (om : Obj), mg "__builtins__" = some (.ref m) ∧ m ≠ builtinsNs ∧ s₁.heap.get? m = some om ∧ om.cls = .type "module" ∧ om.dict = some builtinsNs ∧ om.data = .plain)
    (atA : s₁.heap.get? a = some { cls := .type "list", data := .seq us.toArray }) (hints : IntsAre us ns) (len : ns.length ≤ sizeLine) (room : Room k callerA)
    (F : ∀ base : Heap, K.In base → base.Ns mainGlobals mg → (∀ x ∈ TBC, LamX.TabB base mg x.1 x.2.1) → FnG P w K mg base k fa fd [x] sp)
    (bind : ∀ (s : Shared) (u : Value), BindsTo s fd ⟨[u], []⟩ [(x, u)])
    (says : ∀ H : Hp, (∀ b ps, H b = some (.tbl ps) → isTb b) → (∀ x ∈ TBC, H x.2.1 = some (.tbl #[])) → SqL K H a (ns.map V.int) → sp [.ref a] H (fun v _ => v = .bl true) E0) :
    codeAny (model P w) callerA (.call (.ref fa) ⟨[.ref a], []⟩)
      (fun r s' => r = .ok (.ret (.bool true)) ∧ OldK s₁.heap s'.heap ∧ s'.os = s₁.os ∧ AllBare s'.gens) s₁ := by
  have vals := vals_ints hints
  have sameLen := hints.length
  have tbAt : ∀ {b : Addr}, isTb b → s₁.heap.get? b = some { cls := .none, data := .fields #[] } := fun ⟨x, hx, e⟩ => e ▸ tb.nil x hx
  have aNot : ¬ isTb a := fun z => by
    have := tbAt z
    rw [atA] at this
    cases (congrArg Obj.data (Option.some.inj this) : Data.seq us.toArray _ = Data.fields #[])
  have main : ∀ H : Hp, (∀ b, H b = none ∨ (isTb b ∧ H b = some (.tbl #[])) ∨ (b = a ∧ ∃ o xs, H b = some (.frz o (.lst xs)))) → (∀ x ∈ TBC, H x.2.1 = some (.tbl #[])) → SqL K H a (ns.map V.int) → HOk P w H s₁.heap →
      (H a ≠ none → K.lookup a = none) → codeAny (model P w) callerA (.call (.ref fa) ⟨[.ref a], []⟩)
        (fun r s' => r = .ok (.ret (.bool true)) ∧ OldK s₁.heap s'.heap ∧ s'.os = s₁.os ∧ AllBare s'.gens) s₁ := by
    intro H three tabs seq ok notK
    have back : ∀ {b : Addr} {o : Obj}, s₁.heap.get? b = some o →
        H b = none → (hidT s₁.heap H).get? b = some o := fun e n => hidT_get e n
    -- what is neither a list nor an empty table is not tracked
    have plainFree : ∀ {b : Addr} {o : Obj}, s₁.heap.get? b = some o → (∀ v n, o.data ≠ .seq v n) → o.data ≠ .fields #[] → H b = none := by
      intro b o e d1 d2
      rcases three b with z | ⟨z, _⟩ | ⟨z, _⟩
      · exact z
      · rw [tbAt z] at e; cases e; exact absurd rfl d2
      · rw [z, atA] at e; cases e; exact absurd rfl (d1 _ _)
    have dictFree : ∀ {b : Addr} {o : Obj} {es : Array DictEntry} {ep : Nat}, s₁.heap.get? b = some o →
        o.data = .dict es ep → H b = none := fun e d => plainFree e (fun _ _ z => by rw [d] at z; cases z) fun z => by rw [d] at z; cases z
    have space : ∀ {b : Addr} {m : Str → Option Value}, s₁.heap.Ns b m → (hidT s₁.heap H).Ns b m := by
      rintro b m ⟨o, es, ep, e, d, r⟩
      exact ⟨o, es, ep, back e (dictFree e d), d, r⟩
    have kept : K.In (hidT s₁.heap H) := by
      intro b o e
      refine back (kin b o e) ?_
      rcases three b with z | ⟨⟨x, hx, ex⟩, _⟩ | ⟨z, q⟩
      · exact z
      · rw [← ex, tb.out x hx] at e; cases e
      · obtain ⟨o', xs, q⟩ := q
        rw [z] at e q
        rw [notK (by rw [q]; simp)] at e
        cases e
    have gT : ∀ {b : Addr}, isTb b → mainGlobals ≠ b := fun z q => by
      obtain ⟨o, es, ep, e, d, _⟩ := hmg
      rw [q, tbAt z] at e; cases e; cases d
    have tabsB : ∀ x ∈ TBC, LamX.TabB (hidT s₁.heap H) mg x.1 x.2.1 := fun x hx => by
      have tx : isTb x.2.1 := ⟨x, hx, rfl⟩
      obtain ⟨oc, ws, fl, ft, gs, gt, il, tx1, tx2, c1, c2, c3, c4, crest⟩ := tb.cod x hx
      obtain ⟨m, om, m1, m2, m3, m4, m5, m6⟩ := bmod
      refine ⟨⟨oc, ws, fl, ft, gs, gt, il, tx1, tx2, back c1 (plainFree c1 (fun v n z => by rw [c3] at z; cases z) fun z => ?_), c2, c3, c4, crest⟩, ⟨m, om, m1, m2, fun q => ?_, fun q => ?_, back m3 (plainFree m3 (fun v n z => by rw [m6] at z; cases z) fun z => by rw [m6] at z; cases z), m4, m5, m6⟩, gT tx⟩
      · rw [c3] at z; cases z; simp at c4
      · obtain ⟨o, es, ep, e, d, _⟩ := hmg
        rw [← q, m3] at e; cases e; rw [m6] at d; cases d
      · rw [q, tbAt tx] at m3; cases m3; cases m6
    obtain ⟨mc, l1, l2⟩ := noLim
    have modOk : Mod K mg (hidT s₁.heap H) := ⟨kept, space hmg, ⟨mb, space hmb, boot⟩, ⟨mc, space l1, l2⟩⟩
    have env : Env0 P w K mg (hidT s₁.heap H) callerA [] s₁ H :=
      { frames := rfl, mod := modOk, bs := fun b o e => of_hidT e, bsz := Nat.le_of_eq (hidT_size _ _), funs := trivial
        frf := fun b hb => absurd (show b ∈ ([] : List Addr) from hb) (by simp), hok := ok, bare := .of_eq gen }
    have nt : ∀ b ps, H b = some (.tbl ps) → isTb b := fun b ps q => by
      rcases three b with z | ⟨z, _⟩ | ⟨_, o, xs, z⟩
      · rw [z] at q; cases q
      · exact z
      · rw [z] at q; cases q
    have go := (F _ kept (space hmg) tabsB).goes callerA [] s₁ H ⟨[.ref a], []⟩ [.ref a] [.ref a] _ _ rfl room env
      (bind s₁ (.ref a)) (.cons rfl .nil) (says H nt tabs seq)
    refine codeAny_mono go fun r s' h => ?_
    cases r with
    | error e => exact False.elim h
    | ok fl =>
      cases fl with
      | ret u =>
        obtain ⟨v, H', os, bare, un, ok', ru, q⟩ := h
        cases (show v = .bl true from q)
        obtain rfl : u = Value.bool true := ru
        have same : ∀ b o, ¬ isTb b → s₁.heap.get? b = some o → s'.heap.get? b = some o := fun b o nb e => by
          rcases three b with z | ⟨z, _⟩ | ⟨_, ob, xs, y⟩
          · exact un.keep b o e z (by intro m; exact absurd (show b ∈ ([] : List Addr) from m) (by simp)) (by simp)
          · exact absurd z nb
          · obtain ⟨e1, _⟩ := ok b _ y
            obtain ⟨e2, _⟩ := ok' b _ (un.frzs b ob _ y)
            rw [e] at e1
            cases e1
            exact e2
        have more : ∀ x ∈ TBC, ∃ ps : Array Value, s'.heap.get? x.2.1 = some { cls := .none, data := .fields ps } := fun x hx => by
          obtain ⟨ps, z⟩ := un.tbls x.2.1 #[] (tabs x hx)
          exact ⟨_, ok' x.2.1 _ z⟩
        refine ⟨rfl, ⟨fun b o e => ?_, fun b o e => ?_⟩, os, bare⟩
        · by_cases z : isTb b
          · obtain ⟨x, hx, rfl⟩ := z
            obtain ⟨ps, hp⟩ := more x hx
            rw [tb.nil x hx] at e
            cases e
            exact .inr (.inl ⟨((tb.cod x hx).tab (tb.nil x hx)).isCodeTable, rfl, #[], ps, rfl, by rw [Array.empty_append]; exact hp⟩)
          · exact .inl (same b o z e)
        · by_cases z : isTb b
          · obtain ⟨x, hx, rfl⟩ := z
            obtain ⟨ps, hp⟩ := more x hx
            exact ⟨_, hp⟩
          · exact ⟨o, same b o z e⟩
      | next => exact False.elim h
      | brk => exact False.elim h
      | cont => exact False.elim h
  have okT : ∀ {b : Addr}, isTb b → ObjOk P w (fun _ => none) s₁.heap b (.tbl #[]) := fun z => tbAt z
  classical
  cases own : K.lookup a with
  | some o =>
    have e := kin a o own
    rw [atA] at e
    cases e
    let H : Hp := fun b => if isTb b then some (.tbl #[]) else none
    have at1 : ∀ {b : Addr}, isTb b → H b = some (.tbl #[]) := fun z => if_pos z
    have at0 : ∀ {b : Addr}, ¬ isTb b → H b = none := fun z => if_neg z
    refine main H (fun b => ?_) (fun x hx => at1 ⟨x, hx, rfl⟩) ?_ (fun b u z => ?_) fun z => absurd (at0 aNot) z
    · by_cases z : isTb b
      · exact .inr (.inl ⟨z, at1 z⟩)
      · exact .inl (at0 z)
    · exact .inr ⟨_, us.toArray, _, own, rfl, rfl, rfl, by rw [List.size_toArray, sameLen]; exact len, by simpa using vals⟩
    · by_cases hb : isTb b
      · cases (at1 hb).symm.trans z
        exact tbAt hb
      · cases (at0 hb).symm.trans z
  | none =>
    let o : Obj := { cls := .type "list", data := .seq us.toArray }
    let H : Hp := fun b => if b = a then some (.frz o (.lst (ns.map V.int))) else if isTb b then some (.tbl #[]) else none
    have at1 : H a = some (.frz o (.lst (ns.map V.int))) := if_pos rfl
    have at2 : ∀ {b : Addr}, isTb b → H b = some (.tbl #[]) := fun {b} z => (if_neg (fun e : b = a => aNot (e ▸ z))).trans (if_pos z)
    have at0 : ∀ {b : Addr}, b ≠ a → ¬ isTb b → H b = none := fun n z => (if_neg n).trans (if_neg z)
    refine main H (fun b => ?_) (fun x hx => at2 ⟨x, hx, rfl⟩) (.inl (.inr ⟨o, at1⟩)) (fun b u z => ?_) fun _ => own
    · by_cases hb : b = a
      · exact .inr (.inr ⟨hb, o, _, hb ▸ at1⟩)
      · by_cases z : isTb b
        · exact .inr (.inl ⟨z, at2 z⟩)
        · exact .inl (at0 hb z)
    · by_cases hb : b = a
      · subst hb
        cases at1.symm.trans z
        exact ⟨atA, by rw [List.length_map]; exact len, us, _, vals, atA⟩
      · by_cases z2 : isTb b
        · cases (at2 z2).symm.trans z
          exact tbAt z2
        · cases (at0 hb z2).symm.trans z
end R
namespace R
open PySem PySem.W PyProof.Rows L2
def still0 : Option HO → Option HO
  | some (.tbl _) => none
  | some (.frz _ (.ext _)) => none
  | z => z
theorem still0_of {z : Option HO} {o : HO} (h : still0 z = some o) : z = some o ∧ (∀ ps, o ≠ .tbl ps) ∧ ∀ b ob, o ≠ uT b ob := by
  unfold still0 at h
  split at h
  · cases h
  · cases h
  · rename_i n1 n2
    subst h
    exact ⟨rfl, fun ps e => by subst e; exact n1 ps rfl, fun b ob e => by subst e; exact n2 _ _ rfl⟩

theorem walk_RG {l : OpenLaw} {n k : Nat} {q : Program} {loose : List Str} {XP : (Str → Option Value) → Heap → Prop} {YP : World → Heap → Prop} {d : DefRec} {K : Params → PySem.W.Frag} {x : Str} {fn : List D → Tree D}
    (hn : l.most = some n) (hn2 : n ≤ sizeLine) (hdf : d.params.defaults = []) (hr : Room k callerA) (hY : ∀ (w : World) (h : Heap), YP w h → (K w.params).In h)
    (tabs : ∀ w : World, ∀ x ∈ TBC, ∃ (name : Str) (d : DefRec), (recsOf q).find? (fun e => e.name == name) = some d ∧ PySem.W.tabIn (K w.params) name = some (x.1, x.2.1) ∧ (K w.params).lookup x.2.1 = none)
    (F : ∀ (w : World) (mg : Str → Option Value) (fa : Addr) (h : Heap), XP mg h → (K w.params).In h → h.Ns mainGlobals mg → mg d.name = some (.ref fa) →
      ∃ fd : FuncData, (∀ (s : Shared) (u : Value), BindsTo s fd ⟨[u], []⟩ [(x, u)]) ∧ ∀ base : Heap, (K w.params).In base → base.Ns mainGlobals mg → (∀ x ∈ TBC, LamX.TabB base mg x.1 x.2.1) → FnG l.prog w (K w.params) mg base k fa fd [x] (spF (K w.params) fn))
    (law : ∀ ns : List Int, ns.length ≤ n → (∀ z ∈ ns, Builtin.Int.intBits z ≤ 1048576) → (fn [.scr ns]).all fun r => r = .bl true) :
    WalkO q loose XP YP l.row.toRowW d [] (fun f vs => PySem.call f vs) := by
  refine Att.attach_callB hn hdf fun w s₀ s₁ mg mb fa o pm cd doc a vs ns G Y ho hd hcd hmg hobj hints hlen hbits hg => ?_
  have KX := hY w _ Y
  obtain ⟨fd, hb, hF⟩ := F w mg fa _ G.X KX G.T.g hmg
  have tb : TbF (K w.params) s₁.heap := ⟨fun x hx => by
    obtain ⟨name, dr, h1, h2, h3⟩ := tabs w x hx
    exact (PySem.W.tab_of G.T KX h1 h2).2, fun x hx => by
    obtain ⟨name, dr, h1, h2, h3⟩ := tabs w x hx
    exact h3, fun x hx => by
    obtain ⟨name, dr, h1, h2, h3⟩ := tabs w x hx
    exact (PySem.W.tab_of G.T KX h1 h2).1⟩
  refine law_callG KX G.T.g G.T.b G.T.builtins G.T.nolimit hg tb G.T.bmain hobj hints (Nat.le_trans hlen hn2) hr hF hb fun H hO hTb hS => ?_
  refine ⟨⟨fun b => still0 (H b), fun _ => False⟩, [.scr ns], ⟨fun b o z => (still0_of z).1, fun _ h => h.elim, fun b ps z => (still0_of z).2.1 ps rfl, fun p hp => ?_, fun f o z => absurd rfl ((still0_of z).2.2 f o)⟩, .cons (.scr ?_) .nil, Tree.all_mono (fun r e v F' H' _ rv => ?_) (law ns hlen hbits)⟩
  · obtain ⟨y, hy, rfl⟩ := List.mem_map.mp hp
    exact LamX.TabS.nil (hTb y hy)
  · rcases hS with (hS | ⟨o, hS⟩) | hS
    · exact .inl (.inl (by show still0 (H a) = _; rw [hS]; rfl))
    · exact .inl (.inr ⟨o, by show still0 (H a) = _; rw [hS]; rfl⟩)
    · exact .inr hS
  · subst e
    cases rv
    rfl
end R
namespace R
open PySem PySem.Spec PyProof.Rows L2
open Tree (leaf fail)
structure CalG (P : Program) (w : World) (K : PySem.W.Frag) (mg : Str → Option Value) (base : Heap) (k : Nat) (x : Str) (fn : List D → Tree D) : Prop where
  ex : ∃ (f : Addr) (fd : FuncData) (ps : List Str), FnG P w K mg base k f fd ps (spF K fn) ∧ mg x = some (.ref f) ∧ PySem.W.keepIn K (.ref f) = true ∧ Binds K fd ps []
structure CalKG (P : Program) (w : World) (K : PySem.W.Frag) (mg : Str → Option Value) (base : Heap) (k : Nat) (x : Str) (fn : List D → Tree D) (ks : List Str) (is : List Nat) : Prop where
  ex : ∃ (f : Addr) (fd : FuncData) (ps : List Str), FnG P w K mg base k f fd ps (spF K fn) ∧ mg x = some (.ref f) ∧ PySem.W.keepIn K (.ref f) = true ∧ KwBinds K fd ps ks is
theorem FnG.mono {P : Program} {w : World} {K : PySem.W.Frag} {mg : Str → Option Value} {base : Heap} {j k : Nat} {f : Addr} {fd : FuncData} {ps : List Str} {sp : Sp} (F : FnG P w K mg base j f fd ps sp) (h : j ≤ k) : FnG P w K mg base k f fd ps sp :=
  ⟨F.many, fun A over s H args us vs Q E hG hr => F.goes A over s H args us vs Q E hG (hr.mono h)⟩
section
variable {X : Cx} {k j : Nat} {x : Str} {fn : List D → Tree D} {p pos : Pos} {e : Expr} {es : List Expr} {ma : En → Tree (List D)}
theorem se_cG (c : CalG X.prog X.w X.K X.mg X.base k x fn) (hG : Gd X.A) (hr : Room j X.A) (hk : k ≤ j) (hg : Gl X x) (ha : SA X (e :: es) ma) (hdb : (x == ("__debug__" : Str)) = false := by decide)
    (he : starEach (e :: es) X.env = (false, eval e X.env) :: starEach es X.env := by rfl) (hpl : (backTo pos (starEach es X.env)).any (·.1) = false := by rfl) : SE X (.Call (.Name x p) (e :: es) [] pos) (mA fn ma) := by
  obtain ⟨f, fd, ps, F, hm, kp, b⟩ := c.ex
  exact se_callG F hG (hr.mono hk) hg hm kp b ha hdb he hpl
theorem se_kG {ks : List Str} {is : List Nat} {kws : List Keyword} {mk : En → Tree (List D)} (c : CalKG X.prog X.w X.K X.mg X.base k x fn ks is) (hG : Gd X.A) (hr : Room j X.A) (hk : k ≤ j) (hg : Gl X x) (hkw : SK_ X kws mk)
    (hall : (backToKw pos (keywordEach kws X.env)).all (·.1.isSome) = true := by rfl) (hks : (backToKw pos (keywordEach kws X.env)).filterMap (·.1) = ks := by rfl) (hdb : (x == ("__debug__" : Str)) = false := by decide)
    (hpl : ((backTo pos (starEach [] X.env)).any (·.1) || (backToKw pos (keywordEach kws X.env)).any (·.1.isNone)) = false := by rfl) : SE X (.Call (.Name x p) [] kws pos) (mA (fun ds => fn (permD is ds)) mk) := by
  obtain ⟨f, fd, ps, F, hm, kp, b⟩ := c.ex
  exact se_callKwG F hG (hr.mono hk) hg hm kp b hkw hall hks hdb hpl
/-- repr(x) -/
def fRepr : List D → Tree D
  | [.dct] => leaf (.str "{}")
  | [d] => if (fitD 12 d && (toPy 12 d).showable && decide ((toPy 12 d).shown.length ≤ sizeLine)) = true then leaf (.str (toPy 12 d).shown) else fail
  | _ => fail
theorem f1_repr {K : PySem.W.Frag} : Fn1 K (rRepr K) fRepr := by
  intro F H vs ds Q g p q
  unfold fRepr at q
  split at q
  · obtain ⟨v, rfl, pk⟩ := pks1 p
    cases pk with
    | rep r =>
      cases r with
      | dct h => exact .inr ⟨_, rfl, g.sub _ _ h, q _ F H (Ext.refl g) (.str _)⟩
  · split at q
    · rename_i h
      simp only [Bool.and_eq_true, decide_eq_true_eq] at h
      obtain ⟨v, rfl, pk⟩ := pks1 p
      exact .inl ⟨v, _, rfl, dpk_of g h.1.1 pk, h.1.2, PyData.hasDict_of_canLay _ (canLay_fit 12 _ h.1.1), Nat.le_trans (depth_py 12 _) (by decide), h.2, q _ F H (Ext.refl g) (.str _)⟩
    · exact q.elim
  · exact q.elim
end
section
variable {P : Program} {w : World} {K : PySem.W.Frag} {mg : Str → Option Value} {base : Heap}
theorem calG_mk {x : Str} {st : Stmt} {fn : List D → Tree D} {k : Nat} {ps : List Str} (a : At K mg x st) (c : ∀ f fd, Fun K x x st f fd → FnG P w K mg base k f fd ps (spF K fn))
    (hb : ∀ (kV doc pm : Value) (an : Option Addr) (cdv ct : Value) (us : List Value), us.length = ps.length → bindArgs (PySem.W.fnOf x x (defArgs st) (defBody st) (defScope st) .none kV doc pm an cdv ct) ⟨us, []⟩ = pure (ps.zip us)) : CalG P w K mg base k x fn := by
  obtain ⟨f, fd, F, hm⟩ := a.ex
  exact ⟨f, fd, ps, c f fd F, hm, F.kp, F.binds hb⟩
theorem kwG_of {x : Str} {st : Stmt} {fn : List D → Tree D} {k : Nat} {ps ks : List Str} {is : List Nat} (a : At K mg x st) (c : ∀ f fd, Fun K x x st f fd → FnG P w K mg base k f fd ps (spF K fn))
    (hb : ∀ (kV doc pm : Value) (an : Option Addr) (cdv ct : Value) (ws : List Value), (is.filterMap fun i => ws[i]?).length = ps.length → bindArgs (PySem.W.fnOf x x (defArgs st) (defBody st) (defScope st) .none kV doc pm an cdv ct) ⟨[], ks.zip ws⟩ = pure (ps.zip (is.filterMap fun i => ws[i]?))) :
    CalKG P w K mg base k x fn ks is := by
  obtain ⟨f, fd, F, hm⟩ := a.ex
  have F0 := F
  obtain ⟨oc, od, kV, doc, pm, an, cdv, ct, osl, e, lk, hcd⟩ := F.ex
  refine ⟨f, fd, ps, c f fd F0, hm, F.kp, ⟨fun s ws _ hl => ?_⟩⟩
  rw [e]
  exact .of_eq (hb kV doc pm an cdv ct ws hl)
end
end R

set_option Elab.async false
set_option linter.all false
set_option maxRecDepth 100000
/-! more words: xs[::-1], list(range(n)), xs + ys as one's own list -/
namespace R
open PySem PySem.Spec PyProof.Rows L2
open Tree (leaf fail)
section
variable {X : Cx} {e : Expr} {m : En → Tree D} {pos : Pos}
theorem reps_rev {K : PySem.W.Frag} {F : Fz} : ∀ {xs : List V} {ds : List D}, Reps K F xs ds → Reps K F xs.reverse ds.reverse
  | [], _, .nil => .nil
  | x :: xs, d :: ds, .cons r rs => by
    rw [List.reverse_cons, List.reverse_cons]
    exact (reps_rev rs).append (.cons r .nil)
def mRevL (m : En → Tree D) : En → Tree (List D) := fun E => (m E).bind fun d => match d with
  | .lst ds => leaf ds.reverse
  | _ => fail
theorem sl_rev {k : Nat} {p1 p2 p3 : Pos} (h : SP X e m) : SL X (.Subscript e (.Slice none none (some (.UnaryOp .USub (.Constant (.int 1) k p1) p2)) p3) pos) (mRevL m) := by
  refine ⟨PE.weak (pe_revL h.pe) fun σ H Q ⟨B, F, E, g, rl, q⟩ => ?_⟩
  refine ⟨B, F, E, g, rl, Tree.all_mono (fun d k v F1 H1 e1 p1 => ?_) (Tree.all_bind.mp q)⟩
  cases d with
  | lst ds =>
    obtain ⟨a, xs, rfl, h1, r1⟩ := p1.lst e1.good
    refine ⟨a, xs, rfl, .of h1, fun p hp => ?_⟩
    have f := e1.good.free hp
    exact k p _ F1 _ (e1.trans (Ext.new e1.good hp)) upd_same f.1 f.2 (ext_none g e1 hp) (reps_rev r1)
  | _ => exact False.elim k
theorem sl_listrg1 {p p2 q : Pos} (hc : X.calm = true) (hg : Gl X "list") (hm : X.mg "list" = none) (hg2 : Gl X "range") (hm2 : X.mg "range" = none) (ha : SP X e m) (na : starEach [e] X.env = (false, eval e X.env) :: starEach [] X.env := by rfl)
    (n1 : starEach [.Call (.Name "range" p2) [e] [] q] X.env = (false, eval (.Call (.Name "range" p2) [e] [] q) X.env) :: starEach [] X.env := by rfl) :
    SL X (.Call (.Name "list" p) [.Call (.Name "range" p2) [e] [] q] [] pos) (fun E => (m E).bind fun d => match d with
      | .int j => if (rgOk 0 && rgOk j) = true then leaf (rangeD 0 j) else fail
      | _ => fail) := by
  refine ⟨PE.weak (pe_listRg hc hg hm (prg_1 hg2 hm2 ha.pe na) n1) fun σ H Q ⟨B, F, E, g, rl, q⟩ => ?_⟩
  refine ⟨B, F, E, g, rl, Tree.all_mono (fun d k v F1 H1 e1 p1 => ?_) (Tree.all_bind.mp q)⟩
  cases d with
  | int j =>
    cases p1.int
    have k : (if (rgOk 0 && rgOk j) = true then leaf (rangeD 0 j) else fail).all _ := k
    by_cases h : (rgOk 0 && rgOk j) = true
    · rw [if_pos h] at k
      unfold rgOk at h
      simp only [Bool.and_eq_true, decide_eq_true_eq] at h
      refine ⟨j, rfl, RgOk.of_le h.1.1 h.2.2 h.1.2 h.2.1, fun l hl => ?_⟩
      have f := e1.good.free hl
      exact k l _ F1 _ (e1.trans (Ext.new e1.good hl)) upd_same f.1 f.2 (ext_none g e1 hl) (rgV_rep 0 j)
    · rw [if_neg h] at k
      exact k.elim
  | _ => exact False.elim k
end
end R

set_option Elab.async false
set_option linter.all false
set_option maxRecDepth 100000
/-! len(set(t)) of a tuple of distinct ints -/
namespace R
open PySem PySem.Spec PyProof.Rows L2
open Tree (leaf fail)
theorem nodup_len_le : ∀ {xs ys : List Int}, xs.Nodup → (∀ x ∈ xs, x ∈ ys) → xs.length ≤ ys.length
  | [], _, _, _ => Nat.zero_le _
  | x :: xs, ys, h, hs => by
    obtain ⟨h1, h2⟩ := List.nodup_cons.mp h
    have hx := hs x List.mem_cons_self
    have ih := nodup_len_le (ys := ys.erase x) h2 fun z hz => (List.mem_erase_of_ne (fun e : z = x => h1 (e ▸ hz))).mpr (hs z (List.mem_cons_of_mem _ hz))
    rw [List.length_erase_of_mem hx] at ih
    have : 0 < ys.length := List.length_pos_of_mem hx
    rw [List.length_cons]
    omega
def tLenSetB (K : PySem.W.Frag) (ta : TE) : TE := fun σ H Q => ta σ H fun x H1 => ∃ (l : Addr) (ns : List Int), x = .ref l ∧ (SqL K H1 l (ns.map V.int) ∨ SqT K H1 l (ns.map V.int)) ∧ ns.Nodup ∧ ns.length ≤ 4000 ∧ Q (.int (ns.length : Nat)) H1
theorem pe_lenSetB {X : Cx} {a : Expr} {ta : TE} {p p2 q pos : Pos} (hg : Gl X "len") (hm : X.mg "len" = none) (hg2 : Gl X "set") (hm2 : X.mg "set" = none) (ha : PE X a ta) (hc : X.calm = true := by rfl)
    (na : starEach [a] X.env = (false, eval a X.env) :: starEach [] X.env := by rfl) : PE X (.Call (.Name "len" p) [.Call (.Name "set" p2) [a] [] q] [] pos) (tLenSetB X.K ta) := by
  constructor
  intro pins s σ H Q I h
  apply Call_ (ld_blt I hg hm boot_len _)
  apply PyProof.Rows.callWith_builtin1 (PyProof.Rows.args_cons _ rfl) rfl rfl
  apply Call_ (ld_blt I hg2 hm2 boot_set _)
  apply PyProof.Rows.callWith_type1 (PyProof.Rows.args_cons (thn (ha.run pins s σ H _ I h) _) na) na rfl
  rintro v s1 ⟨x, H1, I1, r1, l, ns, rfl, hq, hnd, hl, q1⟩
  apply PyProof.Rows.args_nil
  cases r1
  rcases hq with hq | hq
  · obtain ⟨its, r, pl, _⟩ := I1.list hq
    have hn : its.toArray.size = ns.length := by rw [List.size_toArray, ← r.length, List.length_map]
    apply call_set_list (I1.ok.hd hc) pl.isList (by simpa using RZ.intsAre_vals r) (by rw [hn]; unfold scanBound; omega)
    intro h' tk hS hk
    apply PyProof.Rows.args_nil
    rw [hn, RZ.firstMet_nodup hnd ns.length (Nat.le_refl _), List.take_length] at hS
    obtain ⟨o, es, ep, t, ho, hex, hd, _, _, _, hf, hm⟩ := hS
    have I2 : Inv X pins σ H1 { s1 with heap := h', toks := tk } := I1.kept fun b o e => hk b o (Heap.lt_size e) e
    exact call_len_set ho hex hd hf (by rw [hm] <;> omega) ⟨.int ns.length, H1, I2.tok _, ⟨_, by rw [hm]⟩, q1⟩
  · obtain ⟨its, r, tp, _⟩ := I1.tuple hq
    apply call_set_tupI ns (I1.ok.hd hc) tp (by simpa using RZ.intsAre_vals r) (by unfold scanBound; omega)
    intro h' tk c hS _ hk
    apply PyProof.Rows.args_nil
    obtain ⟨o, es, ep, t, ho, hex, hd, _, knd, kmem, _, hf, hn, _⟩ := hS
    have e : c = ns.length := by
      have m : ∀ k, k ∈ es.toList.map keyOf ↔ k ∈ ns := fun k => by rw [← kmem k]; simp
      have a1 := nodup_len_le knd fun k hk => (m k).mp hk
      have a2 := nodup_len_le hnd fun k hk => (m k).mpr hk
      have z : (es.toList.map keyOf).length = es.size := by rw [List.length_map]; rfl
      rw [z] at a1 a2
      omega
    subst e
    have I2 : Inv X pins σ H1 { s1 with heap := h', toks := tk } := I1.kept hk
    exact call_len_set ho hex hd hf (by rw [hn] <;> omega) ⟨.int ns.length, H1, I2.tok _, ⟨_, by rw [hn]⟩, q1⟩
def lenSetI (ds : List D) : Tree D := withO (intsD ds) fun ns => if (nodupB ns && decide (ns.length ≤ 4000)) = true then leaf (.int ns.length) else fail
def fLenSet2 : D → Tree D
  | .lst ds => lenSetI ds
  | .tup ds => lenSetI ds
  | _ => fail
theorem lenSetI_all {ds : List D} {P : D → Prop} (h : (lenSetI ds).all P) : ∃ ns, intsD ds = some ns ∧ ns.Nodup ∧ ns.length ≤ 4000 ∧ P (.int ns.length) := by
  unfold lenSetI withO at h
  split at h
  · rename_i ns hn
    have h : (if (nodupB ns && decide (ns.length ≤ 4000)) = true then leaf (D.int ns.length) else fail).all P := h
    split at h
    · rename_i hk
      rw [Bool.and_eq_true, decide_eq_true_eq] at hk
      exact ⟨ns, hn, nodup_of hk.1, hk.2, h⟩
    · exact h.elim
  · exact h.elim
theorem se_lenset2 {X : Cx} {e : Expr} {m : En → Tree D} {p p2 q pos : Pos} (hg : Gl X "len") (hm : X.mg "len" = none) (hg2 : Gl X "set") (hm2 : X.mg "set" = none) (ha : SP X e m) (hc : X.calm = true := by rfl) (na : starEach [e] X.env = (false, eval e X.env) :: starEach [] X.env := by rfl) :
    SE X (.Call (.Name "len" p) [.Call (.Name "set" p2) [e] [] q] [] pos) (m1 fLenSet2 m) := by
  refine ⟨PE.weak (pe_lenSetB hg hm hg2 hm2 ha.pe hc na) fun σ H Q ⟨B, F, E, g, rl, q⟩ => ?_⟩
  refine ⟨B, F, E, g, rl, Tree.all_mono (fun d k v F1 H1 e1 p1 => ?_) (Tree.all_bind.mp q)⟩
  cases d with
  | lst ds =>
    obtain ⟨ns, hn, h1, h2, h3⟩ := lenSetI_all k
    obtain ⟨a, xs, rfl, hh, r1⟩ := p1.lst e1.good
    have := ints_of hn r1
    subst this
    exact ⟨a, ns, rfl, .inl (.of hh), h1, h2, h3 _ F1 H1 e1 (.int _)⟩
  | tup ds =>
    obtain ⟨ns, hn, h1, h2, h3⟩ := lenSetI_all k
    obtain ⟨a, xs, rfl, hh, r1⟩ := p1.tup e1.good
    have := ints_of hn r1
    subst this
    exact ⟨a, ns, rfl, .inr hh, h1, h2, h3 _ F1 H1 e1 (.int _)⟩
  | _ => exact False.elim k
end R

set_option Elab.async false
set_option linter.all false
set_option maxRecDepth 100000
set_option maxHeartbeats 2000000
/-! len(set(xs)) of a list or a tuple of ints, doubles or not -/
namespace R
open PySem PySem.Spec PyProof.Rows L2
open Tree (leaf fail)
def distinct (ns : List Int) : List Int := firstMet (fun i => ns.getD i 0) ns.length
theorem range_getD (ns : List Int) : (List.range ns.length).map (fun i => ns.getD i 0) = ns := by
  apply List.ext_getElem?
  intro i
  rw [List.getElem?_map]
  by_cases h : i < ns.length
  · rw [List.getElem?_range h, List.getElem?_eq_getElem h]
    simp [h]
  · rw [List.getElem?_eq_none (by simpa using h), List.getElem?_eq_none (by simpa using h)]
    rfl
theorem dedup_mem : ∀ (ns acc : List Int) (k : Int), k ∈ ns.foldl step_dedup acc ↔ k ∈ acc ∨ k ∈ ns
  | [], acc, k => by simp
  | n :: ns, acc, k => by
    rw [List.foldl_cons, dedup_mem ns]
    unfold step_dedup
    by_cases h : acc.any (· == n) = true
    · obtain ⟨x, hx, e⟩ := List.any_eq_true.mp h
      have : n ∈ acc := by rw [← eq_of_beq e]; exact hx
      rw [if_pos h, List.mem_cons]
      constructor
      · rintro (z | z)
        · exact .inl z
        · exact .inr (.inr z)
      · rintro (z | z | z)
        · exact .inl z
        · exact .inl (z ▸ this)
        · exact .inr z
    · rw [if_neg h, List.mem_append, List.mem_singleton, List.mem_cons, or_assoc]
theorem dedup_nodup : ∀ (ns acc : List Int), acc.Nodup → (ns.foldl step_dedup acc).Nodup
  | [], acc, h => h
  | n :: ns, acc, h => by
    rw [List.foldl_cons]
    apply dedup_nodup ns
    unfold step_dedup
    by_cases q : acc.any (· == n) = true
    · rw [if_pos q]; exact h
    · rw [if_neg q, List.nodup_append]
      refine ⟨h, by simp, fun a ha b hb e => q ?_⟩
      rw [List.mem_singleton.mp hb] at e
      exact List.any_eq_true.mpr ⟨a, ha, by rw [e]; exact beq_self_eq_true _⟩
theorem distinct_eq (ns : List Int) : distinct ns = ns.foldl step_dedup [] := by
  unfold distinct firstMet
  rw [range_getD]
def tLenSetE (K : PySem.W.Frag) (ta : TE) : TE := fun σ H Q => ta σ H fun x H1 => ∃ (l : Addr) (ns : List Int), x = .ref l ∧ (SqL K H1 l (ns.map V.int) ∨ SqT K H1 l (ns.map V.int)) ∧ ns.length ≤ 4000 ∧ Q (.int ((distinct ns).length : Nat)) H1
theorem pe_lenSetE {X : Cx} {a : Expr} {ta : TE} {p p2 q pos : Pos} (hg : Gl X "len") (hm : X.mg "len" = none) (hg2 : Gl X "set") (hm2 : X.mg "set" = none) (ha : PE X a ta) (hc : X.calm = true := by rfl)
    (na : starEach [a] X.env = (false, eval a X.env) :: starEach [] X.env := by rfl) : PE X (.Call (.Name "len" p) [.Call (.Name "set" p2) [a] [] q] [] pos) (tLenSetE X.K ta) := by
  constructor
  intro pins s σ H Q I h
  apply Call_ (ld_blt I hg hm boot_len _)
  apply PyProof.Rows.callWith_builtin1 (PyProof.Rows.args_cons _ rfl) rfl rfl
  apply Call_ (ld_blt I hg2 hm2 boot_set _)
  apply PyProof.Rows.callWith_type1 (PyProof.Rows.args_cons (thn (ha.run pins s σ H _ I h) _) na) na rfl
  rintro v s1 ⟨x, H1, I1, r1, l, ns, rfl, hq, hl, q1⟩
  apply PyProof.Rows.args_nil
  cases r1
  have few : (distinct ns).length ≤ ns.length := firstMet_length_le _ _
  rcases hq with hq | hq
  · obtain ⟨its, r, pl, _⟩ := I1.list hq
    have hn : its.toArray.size = ns.length := by rw [List.size_toArray, ← r.length, List.length_map]
    apply call_set_list (I1.ok.hd hc) pl.isList (by simpa using RZ.intsAre_vals r) (by rw [hn]; unfold scanBound; omega)
    intro h' tk hS hk
    apply PyProof.Rows.args_nil
    rw [hn] at hS
    obtain ⟨o, es, ep, t, ho, hex, hd, _, _, _, hf, hm⟩ := hS
    have I2 : Inv X pins σ H1 { s1 with heap := h', toks := tk } := I1.kept fun b o e => hk b o (Heap.lt_size e) e
    have hm : es.size = (distinct ns).length := hm
    exact call_len_set ho hex hd hf (by rw [hm] <;> omega) ⟨.int (distinct ns).length, H1, I2.tok _, ⟨_, by rw [hm]⟩, q1⟩
  · obtain ⟨its, r, tp, _⟩ := I1.tuple hq
    apply call_set_tupI ns (I1.ok.hd hc) tp (by simpa using RZ.intsAre_vals r) (by unfold scanBound; omega)
    intro h' tk c hS _ hk
    apply PyProof.Rows.args_nil
    obtain ⟨o, es, ep, t, ho, hex, hd, _, knd, kmem, _, hf, hn, _⟩ := hS
    have e : c = (distinct ns).length := by
      have m : ∀ k, k ∈ es.toList.map keyOf ↔ k ∈ distinct ns := fun k => by
        rw [← kmem k, distinct_eq, dedup_mem]; simp
      have hnd : (distinct ns).Nodup := by rw [distinct_eq]; exact dedup_nodup _ _ .nil
      have a1 := nodup_len_le knd fun k hk => (m k).mp hk
      have a2 := nodup_len_le hnd fun k hk => (m k).mpr hk
      have z : (es.toList.map keyOf).length = es.size := by rw [List.length_map]; rfl
      rw [z] at a1 a2
      omega
    subst e
    have I2 : Inv X pins σ H1 { s1 with heap := h', toks := tk } := I1.kept hk
    exact call_len_set ho hex hd hf (by rw [hn] <;> omega) ⟨.int (distinct ns).length, H1, I2.tok _, ⟨_, by rw [hn]⟩, q1⟩
def lenSetE (ds : List D) : Tree D := withO (intsD ds) fun ns => if ns.length ≤ 4000 then leaf (.int (distinct ns).length) else fail
def fLenSetE : D → Tree D
  | .lst ds => lenSetE ds
  | .tup ds => lenSetE ds
  | _ => fail
theorem lenSetE_all {ds : List D} {P : D → Prop} (h : (lenSetE ds).all P) : ∃ ns, intsD ds = some ns ∧ ns.length ≤ 4000 ∧ P (.int (distinct ns).length) := by
  unfold lenSetE withO at h
  split at h
  · rename_i ns hn
    have h : (if ns.length ≤ 4000 then leaf (D.int (distinct ns).length) else fail).all P := h
    split at h
    · rename_i hk
      exact ⟨ns, hn, hk, h⟩
    · exact h.elim
  · exact h.elim
theorem se_lensetE {X : Cx} {e : Expr} {m : En → Tree D} {p p2 q pos : Pos} (hg : Gl X "len") (hm : X.mg "len" = none) (hg2 : Gl X "set") (hm2 : X.mg "set" = none) (ha : SP X e m) (hc : X.calm = true := by rfl) (na : starEach [e] X.env = (false, eval e X.env) :: starEach [] X.env := by rfl) :
    SE X (.Call (.Name "len" p) [.Call (.Name "set" p2) [e] [] q] [] pos) (m1 fLenSetE m) := by
  refine ⟨PE.weak (pe_lenSetE hg hm hg2 hm2 ha.pe hc na) fun σ H Q ⟨B, F, E, g, rl, q⟩ => ?_⟩
  refine ⟨B, F, E, g, rl, Tree.all_mono (fun d k v F1 H1 e1 p1 => ?_) (Tree.all_bind.mp q)⟩
  cases d with
  | lst ds =>
    obtain ⟨ns, hn, h2, h3⟩ := lenSetE_all k
    obtain ⟨a, xs, rfl, hh, r1⟩ := p1.lst e1.good
    have := ints_of hn r1
    subst this
    exact ⟨a, ns, rfl, .inl (.of hh), h2, h3 _ F1 H1 e1 (.int _)⟩
  | tup ds =>
    obtain ⟨ns, hn, h2, h3⟩ := lenSetE_all k
    obtain ⟨a, xs, rfl, hh, r1⟩ := p1.tup e1.good
    have := ints_of hn r1
    subst this
    exact ⟨a, ns, rfl, .inr hh, h2, h3 _ F1 H1 e1 (.int _)⟩
  | _ => exact False.elim k
end R

set_option maxRecDepth 100000
set_option linter.all false
/-! is True, is not False: truth values only -/
namespace R
open PySem L2
open Tree (leaf fail)
def cIsB : D → D → Tree Bool
  | .bl a, .bl b => leaf (decide (a = b))
  | _, _ => fail
def cNotB : D → D → Tree Bool
  | .bl a, .bl b => leaf (!decide (a = b))
  | _, _ => fail
section
variable {K : PySem.W.Frag}
theorem c2_isB : Cmp2 K (fun x y H Q => ∃ a b, x = V.bl a ∧ y = V.bl b ∧ Q (.bl (decide (a = b))) H) cIsB := by
  intro F H v u d e Q g p1 p2 q
  unfold cIsB at q
  split at q
  · cases p1.bl; cases p2.bl
    exact ⟨_, _, rfl, rfl, q⟩
  · exact q.elim
theorem c2_notB : Cmp2 K (fun x y H Q => ∃ a b, x = V.bl a ∧ y = V.bl b ∧ Q (.bl (!decide (a = b))) H) cNotB := by
  intro F H v u d e Q g p1 p2 q
  unfold cNotB at q
  split at q
  · cases p1.bl; cases p2.bl
    exact ⟨_, _, rfl, rfl, q⟩
  · exact q.elim
end
end R

set_option Elab.async false
set_option linter.all false
set_option maxRecDepth 100000
/-! more words: {} (an empty dict that stays so), t[::-1] of a tuple -/
namespace HT
open PySem PySem.Spec PyProof.Rows
section
variable {prog : Program} {w : World} {A : Around} {E : Value → Shared → Prop} {s : Shared}
theorem adjust_back (n : Nat) : Builtin.Slice.sliceAdjust none none (-1) (n : Int) = ((n : Int) - 1, -1) := by
  unfold Builtin.Slice.sliceAdjust
  simp
theorem places_back (n : Nat) : Builtin.Slice.slicePlaces ((n : Int) - 1) (-1) (-1) = n := by
  unfold Builtin.Slice.slicePlaces
  simp only [show ¬ ((-1 : Int) > 0) by omega, if_false, show (-(-1 : Int)) = 1 by decide, Int.ediv_one]
  split <;> omega
theorem sliceApplied_back {sl : Addr} {vl vu vs : Value} {n : Nat} {Q : Int × Int × Nat → Shared → Prop} (hs : s.heap.IsSliceOf sl vl vu vs) (pl : IsPart vl none) (pu : IsPart vu none) (ps : IsPart vs (some (-1)))
    (h : Q ((n : Int) - 1, -1, n) s) : wpAny (model prog w) A (Builtin.Slice.sliceApplied (.ref sl) (pure (n : Int))) Q E s := by
  obtain ⟨os, hos, hcs, hds⟩ := id hs
  unfold Builtin.Slice.sliceApplied Builtin.Slice.sliceFields
  refine wpAny_bind (wpAny_bind (wpAny_field hos hds (x := vl) rfl (wpAny_bind (wpAny_field hos hds (x := vu) rfl (wpAny_bind (wpAny_field hos hds (x := vs) rfl (wpAny_pure ?_)))))))
  refine wpAny_bind (slicePart_ ps ?_)
  show wpAny _ _ (if ((-1 : Int) == 0) = true then _ else _) _ _ s
  rw [if_neg (by decide)]
  refine wpAny_bind (slicePart_ pl (wpAny_bind (slicePart_ pu (wpAny_bind (wpAny_pure ?_)))))
  show wpAny _ _ (match Builtin.Slice.sliceAdjust none none (-1) (n : Int) with | (lo, hi) => pure (lo, (-1 : Int), Builtin.Slice.slicePlaces lo hi (-1))) _ _ s
  rw [adjust_back n]
  show wpAny _ _ (pure ((n : Int) - 1, (-1 : Int), Builtin.Slice.slicePlaces ((n : Int) - 1) (-1) (-1))) _ _ s
  rw [places_back]
  exact wpAny_pure h
theorem filterMap_some {α β : Type} (f : α → Option β) (g : α → β) : ∀ L : List α, (∀ x ∈ L, f x = some (g x)) → L.filterMap f = L.map g
  | [], _ => rfl
  | x :: L, h => by
    rw [List.filterMap_cons, h x List.mem_cons_self, List.map_cons, filterMap_some f g L fun y hy => h y (List.mem_cons_of_mem _ hy)]
theorem pick_back (xs : Array Value) : ((List.range xs.size).filterMap fun (m : Nat) => xs[(((xs.size : Nat) : Int) - 1 + (m : Int) * (-1)).toNat]?).toArray = xs.toList.reverse.toArray := by
  congr 1
  rw [filterMap_some _ (fun m => xs.toList.reverse.getD m .none) _ (fun m hm => ?_)]
  · refine List.ext_getElem (by simp) fun i h1 h2 => ?_
    rw [List.getElem_map, List.getElem_range]
    rw [List.getD_eq_getElem?_getD, List.getElem?_eq_getElem h2]
    rfl
  · have hm := List.mem_range.mp hm
    have e : (((xs.size : Nat) : Int) - 1 + (m : Int) * (-1)).toNat = xs.size - 1 - m := by omega
    rw [e]
    rw [List.getD_eq_getElem?_getD, List.getElem?_reverse (by simpa using hm)]
    simp only [Array.length_toList]
    rw [Array.getElem?_toList]
    have h3 : xs.size - 1 - m < xs.size := by omega
    rw [Array.getElem?_eq_getElem h3]
    rfl
theorem getItem_tuple_back {t sl : Addr} {items : Array Value} {vl vu vs : Value} {Q : Value → Shared → Prop} (ht : IsTup s.heap t items) (hs : s.heap.IsSliceOf sl vl vu vs) (pl : IsPart vl none) (pu : IsPart vu none) (ps : IsPart vs (some (-1)))
    (h : Q (.ref s.heap.objs.size) { s with heap := s.heap.push { cls := .type "tuple", data := .seq items.toList.reverse.toArray } })
    (hsz : items.size ≤ sizeLine) : wpAny (model prog w) A (getItem (.ref t) (.ref sl)) Q E s := by
  have htake : sizeOk (.seq items.toList.reverse.toArray) := by
    show items.toList.reverse.toArray.size ≤ sizeLine
    rw [List.size_toArray, List.length_reverse, Array.length_toList]
    exact hsz
  obtain ⟨os, hos, hcs, hds⟩ := id hs
  have hTs : s.TypeIs (.ref sl) "slice" := ⟨os, hos, hcs⟩
  unfold getItem
  try with_reducible refine wpAny_holding ?_
  first | refine wpAny_bind (wpAny_pure ?_) | skip
  refine wpAny_bind (wpAny_sequenceKey ht.typeIs (by decide) ?_)
  refine wpAny_bind (wpAny_callSpecial?_slot (name := Str.ofString "__getitem__") ht.typeIs PyProof.Rows.slot_tuple_getitem
    (wpAny_call_entry PyProof.Rows.slot_tuple_getitem ht.typeIs entry_tuple_getitem ?_ (args_tuple_getitem _ _)))
  show wpAny _ _ (Builtin.Tuple.tupleItemsOf (.ref t) >>= _) _ _ s
  refine wpAny_bind (tupleItemsOf_ ht ?_)
  refine wpAny_bind (wpAny_typeOf hTs ?_)
  rw [if_pos (by decide)]
  refine wpAny_bind (sliceApplied_back hs pl pu ps ?_)
  have hno : ¬ (((((items.size : Nat) : Int) - 1) == 0 && (-1 : Int) == 1 && items.size == items.size) = true) := by
    intro q
    rw [Bool.and_eq_true, Bool.and_eq_true] at q
    exact absurd q.1.2 (by decide)
  show wpAny _ _ (if ((((items.size : Nat) : Int) - 1) == 0 && (-1 : Int) == 1 && items.size == items.size) = true then _ else _) _ _ s
  rw [if_neg hno, pick_back]
  first
    | exact wpAny_bind (m := Builtin.Tuple.tupleExact _) (wpAny_newObj_type (wpAny_pure ⟨_, rfl, wpAny_pure h⟩) htake)
    | exact wpAny_bind (m := Builtin.Tuple.tupleExact _) (wpAny_newObj_type (wpAny_bind (wpAny_pure (wpAny_pure ⟨_, rfl, wpAny_pure h⟩))) htake)
    | exact wpAny_bind (wpAny_bind (m := Builtin.Tuple.tupleExact _) (wpAny_newObj_type (wpAny_pure (wpAny_pure ⟨_, rfl, wpAny_pure h⟩)) htake))
    | exact wpAny_bind (wpAny_bind (m := Builtin.Tuple.tupleExact _) (wpAny_newObj_type (wpAny_pure ⟨_, rfl, wpAny_pure h⟩) htake))
end
end HT
namespace R
open PySem PySem.Spec PyProof.Rows L2
open Tree (leaf fail)
section
variable {X : Cx} {e : Expr} {m : En → Tree D} {pos : Pos}
/-- xs[::-1], a list or a tuple: the value as it stands, new -/
def tRevA (K : PySem.W.Frag) (te : TE) : TE := fun σ H Q => te σ H fun x H1 => ∃ a xs, x = .ref a ∧ ((SqL K H1 a xs ∧ ∀ p, H1 p = none → Q (.ref p) (upd H1 p (.lst xs.reverse))) ∨ (SqT K H1 a xs ∧ ∀ p, H1 p = none → Q (.ref p) (upd H1 p (.tup xs.reverse))))
theorem pe_revA {e : Expr} {te : TE} {k : Nat} {p1 p2 p3 pos : Pos} (he : PE X e te) : PE X (.Subscript e (.Slice none none (some (.UnaryOp .USub (.Constant (.int 1) k p1) p2)) p3) pos) (tRevA X.K te) := by
  refine ⟨fun pins s σ H Q I h => ?_⟩
  refine Subscript_ (thn (he.run pins s σ H _ I h) fun v s1 ⟨x, H1, I1, r1, q1⟩ => ?_)
  obtain ⟨a, xs, ex, q⟩ := q1
  subst ex
  cases r1
  have hst : PO X (some (.UnaryOp .USub (.Constant (.int 1) k p1) p2)) (tPart (tUn (rU fun i => .int (-i)) (tC (.int 1)))) := po_some (pe_un un_neg pe_int)
  refine wpAny_Slice (thn (po_none.run pins s1 σ H1 (fun o H2 => o = none ∧ H2 = H1) I1 ⟨rfl, rfl⟩) fun vl s2 ⟨l, H2, I2, pl, el, e2⟩ => ?_)
  subst el e2
  refine thn (po_none.run pins s2 σ H2 (fun o H3 => o = none ∧ H3 = H2) I2 ⟨rfl, rfl⟩) fun vu s3 ⟨u, H3, I3, pu, eu, e3⟩ => ?_
  subst eu e3
  refine thn (hst.run pins s3 σ H3 (fun o H4 => o = some (-1) ∧ H4 = H3) I3 ⟨1, rfl, -1, rfl, rfl, rfl⟩) fun vs s4 ⟨o, H4, I4, ps, eo, e4⟩ => ?_
  subst eo e4
  have I5 : Inv X pins σ H4 { s4 with heap := s4.heap.push { cls := .type "slice", data := .fields #[vl, vu, vs] } } := I4.kept (t' := s4.toks) fun b ob q => Heap.get?_push_of_some _ q
  show wpAny (model X.prog X.w) X.A (subscriptTail e (.Slice none none (some (.UnaryOp .USub (.Constant (.int 1) k p1) p2)) p3) (.ref a) (.ref s4.heap.objs.size)) (EP X pins σ Q) X.xe { s4 with heap := s4.heap.push { cls := .type "slice", data := .fields #[vl, vu, vs] } }
  rcases q with ⟨hx, q⟩ | ⟨hx, q⟩
  · obtain ⟨its, r, ht, hz⟩ := I5.list hx
    have hlen := r.length
    refine tail_any (ops := [.ref a, .ref s4.heap.objs.size]) ht.isList.typeIs (PySem.slot_list_getitem.lookup) ?_ (by with_unfolding_all rfl)
    refine wpAny_getItem_list_slice ht.isList (Heap.IsSliceOf.new _ vl vu vs) pl pu ps (by decide) ?_ (by rw [List.size_toArray]; omega)
    rw [PySem.W.krv_pick]
    refine ⟨.ref _, _, I5.laid (t' := s4.toks) (o := .lst xs.reverse) (fun b ob q => Heap.get?_push_of_some _ q) (Nat.le_refl _) ?_, rfl, q _ (I5.hok.fresh (Nat.le_refl _))⟩
    exact ⟨by rw [List.length_reverse]; exact hz, _, 0, r.reverse, Heap.get?_push_size _ rfl⟩
  · obtain ⟨its, r, ht, hz⟩ := I5.tuple hx
    have hlen := r.length
    refine tail_any (ops := [.ref a, .ref s4.heap.objs.size]) ht.typeIs (PyProof.Rows.slot_tuple_getitem.lookup) ?_ (by with_unfolding_all rfl)
    refine HT.getItem_tuple_back ht (Heap.IsSliceOf.new _ vl vu vs) pl pu ps ?_ (by rw [List.size_toArray]; omega)
    refine ⟨.ref _, _, I5.laid (t' := s4.toks) (o := .tup xs.reverse) (fun b ob q => Heap.get?_push_of_some _ q) (Nat.le_refl _) ?_, rfl, q _ (I5.hok.fresh (Nat.le_refl _))⟩
    exact ⟨by rw [List.length_reverse]; exact hz, _, r.reverse, IsTup.new _ _⟩
def mRevA (m : En → Tree D) : En → Tree D := fun E => (m E).bind fun d => match d with
  | .lst ds => leaf (.lst ds.reverse)
  | .tup ds => leaf (.tup ds.reverse)
  | _ => fail
theorem se_revA {k : Nat} {p1 p2 p3 : Pos} (h : SP X e m) : SE X (.Subscript e (.Slice none none (some (.UnaryOp .USub (.Constant (.int 1) k p1) p2)) p3) pos) (mRevA m) := by
  refine ⟨PE.weak (pe_revA h.pe) fun σ H Q ⟨B, F, E, g, rl, q⟩ => ?_⟩
  refine ⟨B, F, E, g, rl, Tree.all_mono (fun d k v F1 H1 e1 p1 => ?_) (Tree.all_bind.mp q)⟩
  cases d with
  | lst ds =>
    obtain ⟨a, xs, rfl, h1, r1⟩ := p1.lst e1.good
    refine ⟨a, xs, rfl, .inl ⟨.of h1, fun p hp => ?_⟩⟩
    exact k _ (F1.add p (.lst _)) _ (e1.trans (Ext.addNew e1.good hp)) (.lst upd_same ((reps_rev r1).mono (Fz.le_add (e1.good.free hp).1)))
  | tup ds =>
    obtain ⟨a, xs, rfl, h1, r1⟩ := p1.tup e1.good
    refine ⟨a, xs, rfl, .inr ⟨h1, fun p hp => ?_⟩⟩
    exact k _ (F1.add p (.tup _)) _ (e1.trans (Ext.addNew e1.good hp)) (.tup (.of upd_same) ((reps_rev r1).mono (Fz.le_add (e1.good.free hp).1)))
  | _ => exact False.elim k
/-- {} -/
theorem se_dct : SE X (.Dict [] [] pos) (fun _ => leaf .dct) := by
  refine ⟨PE.weak pe_dnewK fun σ H Q ⟨B, F, E, g, rl, q⟩ => fun p hp => ?_⟩
  exact q _ (F.add p (.dK [])) _ (Ext.addNew g hp) (.dct upd_same)
/-- xs + ys as a list of one's own -/
def opAddL : D → D → Tree (List D)
  | .lst xs, .lst ys => lineOk (xs.length + ys.length) (leaf (xs ++ ys))
  | _, _ => fail
def mAddL (ma mb : En → Tree D) : En → Tree (List D) := fun E => (ma E).bind fun d => (mb E).bind fun e => opAddL d e
theorem sl_add {a b : Expr} {ma mb : En → Tree D} (ha : SP X a ma) (hb : SP X b mb) : SL X (.BinOp a .Add b pos) (mAddL ma mb) := by
  refine ⟨PE.weak (pe_op op_cat ha.pe hb.pe) fun σ H Q ⟨B, F, E, g, rl, q⟩ => ?_⟩
  refine ⟨B, F, E, g, rl, Tree.all_mono (fun d k v F1 H1 e1 p1 => ?_) (Tree.all_bind.mp q)⟩
  refine ⟨B, F1, E, e1.good, rl.ext e1, Tree.all_mono (fun e k u F2 H2 e2 p2 => ?_) (Tree.all_bind.mp k)⟩
  have p1 := p1.ext e2
  unfold opAddL at k
  split at k
  · obtain ⟨hl, k⟩ := lineOk_all k
    obtain ⟨a, xs, rfl, h1, r1⟩ := p1.lst e2.good
    obtain ⟨b, ys, rfl, h2, r2⟩ := p2.lst e2.good
    refine ⟨a, b, xs, ys, rfl, rfl, h1, h2, by rw [r1.length, r2.length]; exact hl, fun p hp => ?_⟩
    have f := e2.good.free hp
    exact k p _ F2 _ ((e1.trans e2).trans (Ext.new e2.good hp)) upd_same f.1 f.2 (ext_none g (e1.trans e2) hp) (r1.append r2)
  · exact k.elim
end
end R

set_option Elab.async false
set_option linter.all false
set_option maxRecDepth 100000
set_option maxHeartbeats 2000000
/-! defs that may raise one exception of the program's own; x(lambda: f(..)), x a def that hears that exception -/
namespace R
open PySem PySem.Spec PyProof.Rows L2
open Tree (leaf fail)
/-! ### blocks that may raise C -/
def tSX (K : PySem.W.Frag) (W : WX) (C : Value) (m : En → Tree (Option Out)) : TS := fun D0 σ H => ∃ F0 H0 F E, Ext F0 H0 F H ∧ RelE K (B0 H0) F H σ E ∧ (m E).all fun o => match o with
  | some o => Post K F0 H0 F D0 o
  | none => ∀ σ' F' H', Ext F0 H0 F' H' → F.Le F' → W C none σ' H'
structure SSX (X : Cx) (W : WX) (C : Value) (ss : List Stmt) (m : En → Tree (Option Out)) : Prop where
  ps : PSs X ss (tSX X.K W C m)
section
variable {X : Cx} {W : WX} {C : Value} {st : Stmt} {rest : List Stmt} {m : En → Tree Out} {n : En → Tree (Option Out)} {pos : Pos}
def oLift (m : En → Tree Out) : En → Tree (Option Out) := fun E => (m E).bind fun o => leaf (some o)
theorem ssx_one (h : SS X st m) : SSX X W C [st] (oLift m) := ⟨PSs.weak (pss_one h.ps) fun D0 σ H ⟨F0, H0, F, E, e, r, q⟩ => ⟨F0, H0, F, E, e, r, Tree.all_mono (fun o k => k) (Tree.all_bind.mp q)⟩⟩
def oSeqX (m : En → Tree Out) (n : En → Tree (Option Out)) : En → Tree (Option Out) := fun E => (m E).bind fun o => match o with
  | .nx E' => n E'
  | o => leaf (some o)
theorem ssx_cons (h1 : SS X st m) (h2 : SSX X W C rest n) : SSX X W C (st :: rest) (oSeqX m n) := by
  refine ⟨PSs.weak (pss_cons h1.ps h2.ps) fun D0 σ H ⟨F0, H0, F, E, e, r, q⟩ => ?_⟩
  refine ⟨F0, H0, F, E, e, r, Tree.all_mono (fun o k => ?_) (Tree.all_bind.mp q)⟩
  cases o with
  | nx E' => exact fun σ' F' H' e' l r' => ⟨F0, H0, F', E', e', r', Tree.all_mono (fun o h => by
      cases o with
      | none => exact fun σ2 F2 H2 e2 l2 => h σ2 F2 H2 e2 (l.trans l2)
      | some o => exact Post.le l h) k⟩
  | rt d => exact k
  | bk E' => exact k
  | ct E' => exact k
/-- if c: raise C(), then the rest -/
def oRaiseIf (c : En → Tree Bool) (n : En → Tree (Option Out)) : En → Tree (Option Out) := fun E => (c E).bind fun b => if b = true then leaf none else n E
theorem ssx_raise {c e : Expr} {mc : En → Tree Bool} {rpos : Pos} (hcalm : X.calm = true) (tk : Takes X W) (hm : PMk X e fun _ H Q => Q C none H) (hc : ST X c mc) (h2 : SSX X W C rest n) :
    SSX X W C (.If c [.Raise (some e) none rpos] [] pos :: rest) (oRaiseIf mc n) := by
  refine ⟨PSs.weak (pss_cons (ps_if hc.pt (pss_one (ps_raise hcalm tk hm)) pss_nil) h2.ps) fun D0 σ H ⟨F0, H0, F, E, e, r, q⟩ => ?_⟩
  refine ⟨B0 H0, F, E, e.good, r, Tree.all_mono (fun b k F1 H1 e1 => ?_) (Tree.all_bind.mp q)⟩
  cases b with
  | true => exact (show (leaf (none : Option Out)).all _ from k) σ F1 H1 (e.trans e1) e1.le
  | false => exact ⟨F0, H0, F1, E, e.trans e1, r.ext e1, Tree.all_mono (fun o h => by
      cases o with
      | none => exact fun σ2 F2 H2 e2 l2 => h σ2 F2 H2 e2 (e1.le.trans l2)
      | some o => exact Post.le e1.le h) (show (n E).all _ from k)⟩
/-- X() of a class of the program's own over a built-in exception -/
theorem pmk_own0 {CA : Addr} {bmB : List Value} {B newId initId : String} {x : Str} {p : Pos} (F : ExcBaseFacts B newId initId bmB) (q : PySem.W.excIn X.K CA bmB newId = true) (gC : X.mg x = some (.ref CA)) (kC : PySem.W.keepIn X.K (.ref CA) = true) (r : Raises X (.ref CA)) (hg : Gl X x)
    (hdb : (x == ("__debug__" : Str)) = false := by decide) : PMk X (.Call (.Name x p) [] [] pos) (fun _ H Q => Q (.ref CA) none H) := by
  intro pins s σ H Q I h
  refine wpAny_Call_Name_kw (ld_glob I hg gC ?_ hdb)
  refine PySem.W.callWith_K0 I.kIn kC ?_
  show wpAny _ _ (call (.ref CA) []) _ _ _
  obtain ⟨bm, N, nm, qn, bs, hdct, sn, sub, ab, col, dd, k0, k1, k2, k3, k5, mN, hC, hN, hni, T⟩ := exc_obj I.kIn q
  refine wpAny_call_exc_subT F T hC hN hni (fun h' e hm => ?_) (Nat.zero_le _)
  exact mk_of I hm r h (I.hok.gone hm.new)
end
/-! ### a def's promise -/
def spX (K : PySem.W.Frag) (C : Value) (f : List D → Tree (Option D)) : Sp := fun vs H Q E => ∃ F ds, Good F H ∧ Reps K F vs ds ∧ (f ds).all fun o => match o with
  | some d => ∀ v F' H', Ext F H F' H' → Rep K F' v d → Q v H'
  | none => ∀ F' H', Ext F H F' H' → E C none H'
def mDefX (np n : Nat) (m : En → Tree (Option Out)) : List D → Tree (Option D) := fun ds => if ds.length = np then (m (En.start n ds)).bind fun o => match o with
  | none => leaf none
  | some (.nx _) => leaf (some .non)
  | some (.rt d) => leaf (some d)
  | _ => fail
  else fail
def noX (f : List D → Tree (Option D)) : List D → Tree D := fun ds => (f ds).bind fun o => match o with
  | some d => leaf d
  | none => fail
section
variable {P : Program} {w : World} {K : PySem.W.Frag} {mg : Str → Option Value} {base : Heap}
theorem def_okX {x qual : Str} {st : Stmt} {f : Addr} {fd : FuncData} {N ps : List Str} {k : Nat} {C : Value} {m : En → Tree (Option Out)} (np n : Nat) (F : Fun K x qual st f fd) (S : FnScope N ps (defScope st)) (hn : N.length = n) (hp : ps.length = np)
    (hbody : ∀ (cdv : Value) (A : Around) (outer : List Env) (s : Shared) (H : Hp) (E : XK), Room k (A.deeper (envOfC qual (defScope st) s.heap.objs.size f cdv)) →
      SSX (cxOf (L2.CX P w) P w K mg base N qual (defScope st) f cdv A outer s H E) (fun cls d _ H => E cls d H) C (defBody st) m) : FnOk P w K mg base (L2.CX P w) (k + 1) f fd ps (spX K C (mDefX np n m)) := by
  subst hn hp
  refine F.okX S (fun vs H Q E ⟨F, ds, g, r, q⟩ => ?_) (fun cdv A outer s H vs Q E hr h => ?_)
  · unfold mDefX at q
    split at q
    · rename_i h; rw [r.length]; exact h
    · exact q.elim
  · obtain ⟨F, ds, g, r, q⟩ := h
    refine ⟨_, (hbody cdv A outer s H E hr).ps, F, H, F, En.start N.length ds, Ext.refl g, rel_start r N, ?_⟩
    unfold mDefX at q
    split at q
    · refine Tree.all_mono (fun o k => ?_) (Tree.all_bind.mp q)
      cases o with
      | none => exact fun σ' F' H' e l => k F' H' e
      | some o =>
        cases o with
        | nx E => exact fun σ' F' H' e l r => k .non F' H' e .non
        | rt d => exact fun v F' H' e l r => k v F' H' e r
        | bk E => exact False.elim k
        | ct E => exact False.elim k
    · exact q.elim
/-- where it does not raise it is a def like others -/
theorem FnG.ofX {k : Nat} {f : Addr} {fd : FuncData} {ps : List Str} {C : Value} {fx : List D → Tree (Option D)} (F : FnOk P w K mg base (L2.CX P w) k f fd ps (spX K C fx)) : FnG P w K mg base k f fd ps (spF K (noX fx)) := by
  have cv : ∀ vs H Q E, spF K (noX fx) vs H Q E → spX K C fx vs H Q E0 := fun vs H Q E ⟨F, ds, g, r, q⟩ => ⟨F, ds, g, r, Tree.all_mono (fun o k => by
    cases o with
    | some d => exact k
    | none => exact False.elim k) (Tree.all_bind.mp q)⟩
  refine ⟨fun vs H Q E h => F.len _ _ _ _ (cv vs H Q E h), fun A over s H args us vs Q E _ hr e0 hb hv h => ?_⟩
  refine codeAny_mono (F.run A over s H args us vs Q E0 hr e0 hb hv (cv vs H Q E h)) fun r s' hq => ?_
  cases r with
  | error e =>
    obtain ⟨_, _, _, _, _, _, _, _, _, _, _, _, z⟩ := hq
    exact z.elim
  | ok fl => cases fl <;> exact hq
end
structure CalX (P : Program) (w : World) (K : PySem.W.Frag) (mg : Str → Option Value) (base : Heap) (k : Nat) (x : Str) (C : Value) (fn : List D → Tree (Option D)) : Prop where
  ex : ∃ (f : Addr) (fd : FuncData) (ps : List Str), FnOk P w K mg base (L2.CX P w) k f fd ps (spX K C fn) ∧ mg x = some (.ref f) ∧ PySem.W.keepIn K (.ref f) = true ∧ Binds K fd ps []
structure CalKX (P : Program) (w : World) (K : PySem.W.Frag) (mg : Str → Option Value) (base : Heap) (k : Nat) (x : Str) (C : Value) (fn : List D → Tree (Option D)) (ks : List Str) (is : List Nat) : Prop where
  ex : ∃ (f : Addr) (fd : FuncData) (ps : List Str), FnOk P w K mg base (L2.CX P w) k f fd ps (spX K C fn) ∧ mg x = some (.ref f) ∧ PySem.W.keepIn K (.ref f) = true ∧ KwBinds K fd ps ks is
end R

set_option Elab.async false
set_option linter.all false
set_option maxRecDepth 100000
set_option maxHeartbeats 2000000
/-! x(lambda: f(..)): x hears one exception -/
namespace R
open PySem PySem.Spec PyProof.Rows L2 LamX
open Tree (leaf fail)
/-- told = None / try: told = a() / except e: told = ret / return told -/
theorem heard_gives {X : Cx} {Ng : List Str} {x a e q ret told : Str} {sg : Scope} {g CS : Addr} {cdg : Value} {j j0 : Nat} {p1 p2 p3 p4 p5 p6 p7 p8 p9 p10 p11 p12 p13 p14 p15 : Pos} (nd : Ng.Nodup) (h2 : Ng.length = 2) (h1 : Ng[1]? = some told) (hl : Loc sg told) (hv : Vis sg told)
    (hge : sg.names.lookup e = some .globalImplicit) (hme : X.mg e = some (.ref CS)) (hde : (e == ("__debug__" : Str)) = false) (hdt : (told == ("__debug__" : Str)) = false) (hct : (told == ("__classdict__" : Str)) = false)
    (hlt : sg.names.lookup told = some .local) :
    GivesTo X Ng x sg g cdg [.Assign [.Name told p1] (.Constant .none j0 p2) p3, .Try [.Assign [.Name told p4] (.Call (.Name a p5) [] [] p6) p7] [.ExceptHandler (some (.Name e p8)) none [.Assign [.Name told p9] (.Constant (.str ret) j p10) p11] p12] [] [] p13, .Return (some (.Name told p14)) p15] a q (TTold X.K CS ret) := by
  intro f c' s H Q tl act hc h
  have hgl : Gl (cxOf C8.CX0 X.prog X.w X.K X.mg X.base Ng x sg g cdg X.A X.stack s H C8.E0).nox e := hge
  have st0 : (L2.start Ng [V.ref f])[0]? = some (some (V.ref f)) := by
    match Ng, h2 with
    | [u, v], _ => rfl
  have stl : (L2.start Ng [V.ref f]).length = 2 := by
    match Ng, h2 with
    | [u, v], _ => rfl
  refine ⟨_, pss_cons (ps_set (i := 1) nd h1 hl pe_non (hf := .inr hlt)) (pss_cons (ps_try_only (X := (cxOf C8.CX0 X.prog X.w X.K X.mg X.base Ng x sg g cdg X.A X.stack s H C8.E0).nox) (c := .ref CS)
      (tb := fun W D σ H => ∃ Ech : XK, (∀ cls d σ' H', Ech cls d H' → W cls d σ' H') ∧ σ[0]? = some (some (.ref f)) ∧ H c' = some (CodeO c' q) ∧ tl Ech H fun v H' => D.nx (σ.set 1 (some v)) H')
      (ts := fun _ _ _ D σ H => σ.length = 2 → D.nx (σ.set 1 (some (.str ret))) H)
      rfl rfl ⟨hgl, hde, .inl hme⟩ L2.takes0 (fun W pn xe tk _ => ?_) (fun ea oe cls d pn _ _ => ?_)) (pss_one (ps_ret (pe_var h1 hv hdt hct)))), ?_⟩
  · refine ⟨fun pins s' σ H' D I h' => ?_⟩
    obtain ⟨Ech, hW, k1, k2, k3⟩ := h'
    have hp := act W pn xe Ech p5 p6 tk hW
    have hq := pss_one (ps_set (i := 1) (pos := p7) (pos' := p4) nd h1 hl hp (hf := .inr hlt))
    exact hq.run pins s' σ H' D I ⟨k1, k2, k3⟩
  · refine ⟨fun pins s' σ H' D I h' => ?_⟩
    have hq : PSs ((cxOf C8.CX0 X.prog X.w X.K X.mg X.base Ng x sg g cdg X.A X.stack s H C8.E0).nox.suite ea ((ea, oe) :: pn)) [.Assign [.Name told p9] (.Constant (.str ret) j p10) p11] (tAsg (tC (.str ret)) (gName 1)) := pss_one (ps_set nd h1 hl pe_str (hf := .inr hlt))
    exact hq.run pins s' σ H' D I (h' (I.len.trans h2))
  · refine ⟨fun cls _ H' => ∃ b, PySem.W.exmOne X.K cls (.ref CS) = some b ∧ (b = true → Q (.str ret) H') ∧ (b = false → False), fun cls d σ' H' ⟨b, e1, e2, e3⟩ => ⟨b, e1, fun hb a _ hl => ⟨_, List.getElem?_set_self (by rw [hl]; decide), e2 hb⟩, fun hb => e3 hb⟩, ?_, hc, ?_⟩
    · rw [List.getElem?_set_ne (by decide)]; exact st0
    · have e1 : ∀ (σ : L2.St) (hσ : σ.length = 2), (fun (v : V) (H' : Hp) => ∃ v', (σ.set 1 (some v))[1]? = some (some v') ∧ Q v' H') = Q := fun σ hσ => funext fun v => funext fun H' => propext ⟨fun ⟨v', e, q⟩ => by
        rw [List.getElem?_set_self (by rw [hσ]; decide)] at e
        cases e
        exact q, fun q => ⟨v, List.getElem?_set_self (by rw [hσ]; decide), q⟩⟩
      show tl _ H (fun (v : V) (H' : Hp) => ∃ v', (((L2.start Ng [V.ref f]).set 1 (some .non)).set 1 (some v))[1]? = some (some v') ∧ Q v' H')
      rw [e1 _ (by rw [List.length_set]; exact stl)]
      exact h
def mHeard (ret : Str) (fx : List D → Tree (Option D)) (ma : En → Tree (List D)) : En → Tree D := fun E => (ma E).bind fun ds => (fx ds).bind fun o => match o with
  | some d => leaf d
  | none => leaf (.str ret)
section
variable {X : Cx} {k : Nat} {x a q ret : Str} {st : Stmt} {Ng : List Str} {CS c P : Addr} {params : Arguments} {body : Expr} {scope : Scope} {lpos p pos : Pos} {fx : List D → Tree (Option D)} {ma : En → Tree (List D)}
/-- tables grow: all else stays -/
theorem ext_tabs {F : Fz} {H H1 : Hp} (g : Good F H) (e : ExtN H H1) (t : Tabs TB H1) : Ext F H F H1 :=
  ⟨⟨fun a o h => e a o (g.sub a o h) fun ps z => g.nt a ps (z ▸ h), fun a ta => by
      obtain ⟨n, x, y, h, r⟩ := g.pot a ta
      exact ⟨n, x, y, e a _ h (fun ps z => by cases z), r⟩, g.nt, t, fun f ob h q ps b sc cl pm c ctv z => e c _ (g.cod f ob h q ps b sc cl pm c ctv z) (codeO_ext rfl).2⟩, Same.refl _, fun _ h => h, fun a o h _ nt => e a o h nt, fun _ h => h.elim .inl fun z => .inr (.inl z)⟩
/-- x(lambda: body), body a call that may raise CS -/
theorem se_heard (aH : At X.K X.mg x st) (Sg : FnScope Ng [a] (defScope st)) (hNg : Ng[0]? = some a) (hva : Vis (defScope st) a)
    (hbi : ∀ (kV doc pm : Value) (an : Option Addr) (cdv ct : Value) (us : List Value), us.length = 1 → bindArgs (PySem.W.fnOf x x (defArgs st) (defBody st) (defScope st) .none kV doc pm an cdv ct) ⟨us, []⟩ = pure ([a].zip us))
    (hG : ∀ (g : Addr) (cdg : Value), GivesTo X Ng x (defScope st) g cdg (defBody st) a (X.env.qual ++ "<lambda>") (TTold X.K CS ret)) (tb : TabB X.base X.mg c P) (hcode : X.env.code = .ref c) (hmT : (P, X.env.qual ++ "<lambda>") ∈ TB)
    (hu : ∀ p ∈ TB, p.1 = P → p.2 = X.env.qual ++ "<lambda>") (hr : Room (k + 2) X.A) (hgl : Gl X x) (eC : PySem.W.exmOne X.K (.ref CS) (.ref CS) = some true) (L : LamS X.env.scope scope)
    (hbody : ∀ (A : Around) (outer : List Env) (s : Shared) (H : Hp) (E : XK) (f c' : Addr), Room k (A.deeper (lamEnv X scope s.heap.objs.size f c')) → PE (lamCx X A outer s H E scope f c') body (tCallS (spX X.K (.ref CS) fx) (fun _ => E) (tA X.K ma)))
    (hdef : defaultsOf params X.env = ([], []) := by rfl)
    (hbind : ∀ (q : Str) (cl : List (Str × Addr)) (pm cv ctv : Value), bindArgs (PySem.W.kla_fn "<lambda>" q params body scope cl pm cv ctv) ⟨[], []⟩ = pure [] := by intros; rfl)
    (hdb : (x == ("__debug__" : Str)) = false := by decide) (hd : (a == ("__debug__" : Str)) = false := by decide) (hcd : (a == ("__classdict__" : Str)) = false := by decide) :
    SE X (.Call (.Name x p) [.Lambda params body scope lpos] [] pos) (mHeard ret fx ma) := by
  obtain ⟨g, fd, Fg, hm⟩ := aH.ex
  have Fg0 := Fg
  obtain ⟨oc, od, kV, doc, pm, an, cdv, ct, osl, e, lk, hcd'⟩ := Fg.ex
  subst e
  refine ⟨PE.weak (pe_lamcall (T := TB) (TT := TTold X.K CS ret) hgl hm Fg0.kp lk hcd' (Fg0.binds hbi) Sg hNg hva (hG g cdv) tb hcode hmT hu hr L hdef hbind (t := fun E => tCallS (spX X.K (.ref CS) fx) (fun _ => E) (tA X.K ma)) hbody hdb hd hcd) fun σ H Q ⟨B, F, E, gd, rl, q⟩ => ⟨gd.tab, fun H1 eN T1 => ?_⟩⟩
  have e1 := ext_tabs gd eN T1
  refine ⟨B, F, E, e1.good, rl.ext e1, Tree.all_mono (fun ds k vs F2 H2 e2 p2 => ?_) (Tree.all_bind.mp q)⟩
  refine ⟨F2, ds, e2.good, p2, Tree.all_mono (fun o ko => ?_) (Tree.all_bind.mp k)⟩
  cases o with
  | some d => exact fun v F3 H3 e3 rv => (show ∀ v F' H', Ext F H F' H' → Rep X.K F' v d → Q v H' from ko) v F3 H3 ((e1.trans e2).trans e3) rv
  | none => exact fun F3 H3 e3 => ⟨true, eC, fun _ => (show ∀ v F' H', Ext F H F' H' → Rep X.K F' v (.str ret) → Q v H' from ko) _ F3 H3 ((e1.trans e2).trans e3) (.str ret), fun z => by cases z⟩
/-- the lambda's body: a call by place -/
theorem lam_call {j : Nat} {f : Str} {e : Expr} {es : List Expr} {cpos pf : Pos} (cx : CalX X.prog X.w X.K X.mg X.base j f (.ref CS) fx) (hj : j ≤ k) (hgf : scope.names.lookup f = some .globalImplicit)
    (ha : ∀ (A : Around) (outer : List Env) (s : Shared) (H : Hp) (E : XK) (fa c' : Addr), SA (lamCx X A outer s H E scope fa c') (e :: es) ma)
    (hdb : (f == ("__debug__" : Str)) = false := by decide) (he : ∀ env, starEach (e :: es) env = (false, eval e env) :: starEach es env := by intro; rfl) (hpl : ∀ env, (backTo cpos (starEach es env)).any (·.1) = false := by intro; rfl) :
    ∀ (A : Around) (outer : List Env) (s : Shared) (H : Hp) (E : XK) (fa c' : Addr), Room k (A.deeper (lamEnv X scope s.heap.objs.size fa c')) → PE (lamCx X A outer s H E scope fa c') (.Call (.Name f pf) (e :: es) [] cpos) (tCallS (spX X.K (.ref CS) fx) (fun _ => E) (tA X.K ma)) := by
  intro A outer s H E fa c' hr
  obtain ⟨g, fd, ps, F, hm, kp, b⟩ := cx.ex
  have tk : Takes (lamCx X A outer s H E scope fa c') (fun cls d _ H => E cls d H) := takes_of rfl rfl rfl rfl
  exact pe_callS (X := lamCx X A outer s H E scope fa c') (E := fun _ => E) F (hr.mono hj) hgf hm kp b (fun σ => L2.passAt tk σ) (ha A outer s H E fa c').pa hdb (he _) (hpl _)
/-- the lambda's body: a call by names -/
theorem lam_callK {j : Nat} {f : Str} {kws : List Keyword} {ks : List Str} {is : List Nat} {cpos pf : Pos} (cx : CalKX X.prog X.w X.K X.mg X.base j f (.ref CS) fx ks is) (hj : j ≤ k) (hgf : scope.names.lookup f = some .globalImplicit)
    (ha : ∀ (A : Around) (outer : List Env) (s : Shared) (H : Hp) (E : XK) (fa c' : Addr), SK_ (lamCx X A outer s H E scope fa c') kws ma)
    (hall : ∀ env, (backToKw cpos (keywordEach kws env)).all (·.1.isSome) = true := by intro; rfl) (hks : ∀ env, (backToKw cpos (keywordEach kws env)).filterMap (·.1) = ks := by intro; rfl) (hdb : (f == ("__debug__" : Str)) = false := by decide)
    (hpl : ∀ env, ((backTo cpos (starEach [] env)).any (·.1) || (backToKw cpos (keywordEach kws env)).any (·.1.isNone)) = false := by intro; rfl) :
    ∀ (A : Around) (outer : List Env) (s : Shared) (H : Hp) (E : XK) (fa c' : Addr), Room k (A.deeper (lamEnv X scope s.heap.objs.size fa c')) → PE (lamCx X A outer s H E scope fa c') (.Call (.Name f pf) [] kws cpos) (tCallS (spX X.K (.ref CS) fun ds => fx (permD is ds)) (fun _ => E) (tA X.K ma)) := by
  intro A outer s0 H0 E fa c' hr
  obtain ⟨g, fd, ps, F, hm, kp, b⟩ := cx.ex
  have tk : Takes (lamCx X A outer s0 H0 E scope fa c') (fun cls d _ H => E cls d H) := takes_of rfl rfl rfl rfl
  refine ⟨fun pins s σ H Q I h => ?_⟩
  refine wpAny_Call_Name_kw (ld_glob I hgf hm ?_ hdb)
  refine PySem.W.callWith_KW0 (h₀ := X.base) I.ok.mod.kin kp (hall _) (thn ((ha A outer s0 H0 E fa c').pk.run cpos pins s σ H _ I h) fun ws s2 ⟨zs, H2, I2, rz, q2⟩ => ⟨I2.kIn, ?_⟩) (hpl _)
  obtain ⟨F', ds, gd, r, q⟩ := q2
  have q3 : spX X.K (.ref CS) fx (is.filterMap fun i => zs[i]?) H2 Q E := ⟨F', permD is ds, gd, perm_rep r is, q⟩
  rw [hks _]
  have r2 := perm_vals rz is
  have hl := r2.length.symm.trans (F.len _ _ _ _ q3)
  refine wpAny_call (codeAny_mono ((F.mono hj).run (lamCx X A outer s0 H0 E scope fa c').A (lamCx X A outer s0 H0 E scope fa c').stack s2 H2 _ _ _ Q E hr I2.env0 (b.to s2 ws I2.kIn hl) r2 q3) fun r s' hq => ?_)
  cases r with
  | error e => exact L2.passAt tk σ pins H2 s2 e s' I2 hq
  | ok fl =>
    cases fl with
    | ret u => exact I2.after hq
    | next => exact False.elim hq
    | brk => exact False.elim hq
    | cont => exact False.elim hq
end
/-! ### an exception class of the program's own, over a built-in one -/
structure ExcF (K : PySem.W.Frag) (mg : Str → Option Value) (x : Str) (CS : Addr) (B nid iid : String) (bm : List Value) : Prop where
  base : ExcBaseFacts B nid iid bm
  inn : PySem.W.excIn K CS bm nid = true
  gC : mg x = some (.ref CS)
  kC : PySem.W.keepIn K (.ref CS) = true
  sub : PySem.W.subIn K (.ref CS) (.type "BaseException") = some true
  typ : PySem.W.typeIn K (.ref CS) = some (.type "type")
  ext : PySem.W.exmOne K (.ref CS) (.ref CS) = some true
theorem exc_of {K : PySem.W.Frag} {mg : Str → Option Value} {x : Str} {h : Heap} {CS : Addr} {B nid iid : String} {bm : List Value} (X : K.In h) (G : h.Ns mainGlobals mg) (b : ExcBaseFacts B nid iid bm) (a : PySem.W.nsIn K mainGlobals x = some (some (.ref CS))) (i : PySem.W.excIn K CS bm nid = true) (k : PySem.W.keepIn K (.ref CS) = true)
    (s : PySem.W.subIn K (.ref CS) (.type "BaseException") = some true) (t : PySem.W.typeIn K (.ref CS) = some (.type "type")) (e : PySem.W.exmOne K (.ref CS) (.ref CS) = some true) : ExcF K mg x CS B nid iid bm := ⟨b, i, PySem.W.mg_of X G a, k, s, t, e⟩
section
variable {P : Program} {w : World} {K : PySem.W.Frag} {mg : Str → Option Value} {base : Heap}
theorem calx_mk {x : Str} {st : Stmt} {C : Value} {fn : List D → Tree (Option D)} {k : Nat} {ps : List Str} (a : At K mg x st) (c : ∀ f fd, Fun K x x st f fd → FnOk P w K mg base (L2.CX P w) k f fd ps (spX K C fn))
    (hb : ∀ (kV doc pm : Value) (an : Option Addr) (cdv ct : Value) (us : List Value), us.length = ps.length → bindArgs (PySem.W.fnOf x x (defArgs st) (defBody st) (defScope st) .none kV doc pm an cdv ct) ⟨us, []⟩ = pure (ps.zip us)) : CalX P w K mg base k x C fn := by
  obtain ⟨f, fd, F, hm⟩ := a.ex
  exact ⟨f, fd, ps, c f fd F, hm, F.kp, F.binds hb⟩
theorem kwx_of {x : Str} {st : Stmt} {C : Value} {fn : List D → Tree (Option D)} {k : Nat} {ps ks : List Str} {is : List Nat} (a : At K mg x st) (c : ∀ f fd, Fun K x x st f fd → FnOk P w K mg base (L2.CX P w) k f fd ps (spX K C fn))
    (hb : ∀ (kV doc pm : Value) (an : Option Addr) (cdv ct : Value) (ws : List Value), (is.filterMap fun i => ws[i]?).length = ps.length → bindArgs (PySem.W.fnOf x x (defArgs st) (defBody st) (defScope st) .none kV doc pm an cdv ct) ⟨[], ks.zip ws⟩ = pure (ps.zip (is.filterMap fun i => ws[i]?))) :
    CalKX P w K mg base k x C fn ks is := by
  obtain ⟨f, fd, F, hm⟩ := a.ex
  have F0 := F
  obtain ⟨oc, od, kV, doc, pm, an, cdv, ct, osl, e, lk, hcd⟩ := F.ex
  refine ⟨f, fd, ps, c f fd F0, hm, F.kp, ⟨fun s ws _ hl => ?_⟩⟩
  rw [e]
  exact .of_eq (hb kV doc pm an cdv ct ws hl)
/-- a def whose code object is known -/
theorem calG_mkC {x : Str} {st : Stmt} {fn : List D → Tree D} {k : Nat} {ps : List Str} (a : At K mg x st) (c : ∀ f fd, Fun K x x st f fd → mg x = some (.ref f) → FnG P w K mg base k f fd ps (spF K fn))
    (hb : ∀ (kV doc pm : Value) (an : Option Addr) (cdv ct : Value) (us : List Value), us.length = ps.length → bindArgs (PySem.W.fnOf x x (defArgs st) (defBody st) (defScope st) .none kV doc pm an cdv ct) ⟨us, []⟩ = pure (ps.zip us)) : CalG P w K mg base k x fn := by
  obtain ⟨f, fd, F, hm⟩ := a.ex
  exact ⟨f, fd, ps, c f fd F hm, hm, F.kp, F.binds hb⟩
theorem code_of {x : Str} {st : Stmt} {f c P : Addr} {fd : FuncData} (KB : K.In base) (GB : base.Ns mainGlobals mg) (ht : PySem.W.tabIn K x = some (c, P)) (F : Fun K x x st f fd) (hm : mg x = some (.ref f)) : fd.code = .ref c := by
  obtain ⟨oc, od, kV, doc, pm, an, cdv, ct, osl, rfl, lk, _⟩ := F.ex
  exact PySem.W.law_code KB GB ht hm (KB _ _ lk) rfl
end
end R

set_option Elab.async false
set_option linter.all false
set_option maxRecDepth 100000
set_option maxHeartbeats 2000000
/-! defs as values -/
namespace R
open PySem PySem.Spec PyProof.Rows L2
open Tree (leaf fail)
/-- where the defs that are values stand -/
def Fns (mg : Str → Option Value) : Prop := ∀ n, n < FNS.length → mg (FNS.getD n (0, "")).2 = some (.ref (FNS.getD n (0, "")).1)
theorem fns_get {n : Nat} (h : n < FNS.length) : FNS[n]? = some ((FNS.getD n (0, "")).1, (FNS.getD n (0, "")).2) := by
  rw [List.getD_eq_getElem?_getD, List.getElem?_eq_getElem h]; rfl
theorem fns_of {n : Nat} {a : Addr} {x : Str} (h : FNS[n]? = some (a, x)) : n < FNS.length ∧ FNS.getD n (0, "") = (a, x) := by
  have hl : n < FNS.length := by
    rcases Nat.lt_or_ge n FNS.length with q | q
    · exact q
    · rw [List.getElem?_eq_none q] at h; cases h
  refine ⟨hl, ?_⟩
  rw [List.getD_eq_getElem?_getD, h]; rfl
theorem con_fn {K : PySem.W.Frag} {mg : Str → Option Value} (fns : Fns mg) (n : Nat) (h : n < FNS.length) : ConR K mg (FNS.getD n (0, "")).2 (.fn n) :=
  ⟨.ref _, .ref _, fns n h, rfl, fun _ => .fn (fns_get h)⟩
def mCallV (i : Nat) (disp : List (List D → Tree D)) (ma : En → Tree (List D)) : En → Tree D := fun E => match E[i]? with
  | some (some ⟨false, .fn n⟩) => mA (disp.getD n fun _ => fail) ma E
  | _ => fail
section
variable {X : Cx} {k i : Nat} {y : Str} {disp : List (List D → Tree D)} {p pos : Pos} {e : Expr} {es : List Expr} {ma : En → Tree (List D)}
theorem se_callV (hy : PE X (.Name y p) (tVar i)) (fns : Fns X.mg) (hc : ∀ n, n < FNS.length → ∃ j, j ≤ k ∧ CalG X.prog X.w X.K X.mg X.base j (FNS.getD n (0, "")).2 (disp.getD n fun _ => fail)) (hG : Gd X.A) (hr : Room k X.A)
    (ha : SA X (e :: es) ma)
    (he : starEach (e :: es) X.env = (false, eval e X.env) :: starEach es X.env := by rfl) (hpl : (backTo pos (starEach es X.env)).any (·.1) = false := by rfl) :
    SE X (.Call (.Name y p) (e :: es) [] pos) (mCallV i disp ma) := by
  refine ⟨PE.weak (t := fun σ H Q => ∃ n a x, FNS[n]? = some (a, x) ∧ σ[i]? = some (some (.ref a)) ∧ tA X.K ma σ H fun vs H1 => spF X.K (disp.getD n fun _ => fail) vs H1 Q E0) ⟨fun pins s σ H Q I h => ?_⟩ fun σ H Q ⟨B, F, E, g, rl, q⟩ => ?_⟩
  · obtain ⟨n, a, x, hn, hs, h⟩ := h
    obtain ⟨hl0, hq0⟩ := fns_of hn
    obtain ⟨j, hj, c⟩ := hc n hl0
    have hm0 := fns n hl0
    rw [hq0] at hm0 c
    obtain ⟨f, fd, ps, F, hm, kp, b⟩ := c.ex
    obtain rfl : a = f := by
      have := hm0.symm.trans hm
      cases this; rfl
    refine wpAny_Call_Name_kw (thn (hy.run pins s σ H (fun v H1 => v = .ref a ∧ H1 = H) I ⟨.ref a, hs, rfl, rfl⟩) fun u s1 ⟨v, H1, I1, r1, q1⟩ => ?_)
    obtain ⟨ev, eH⟩ := q1
    subst ev
    rw [eH] at I1
    obtain rfl : u = Value.ref a := r1
    refine PySem.W.callWith_K (h₀ := X.base) I1.ok.mod.kin kp (thn (ha.pa.run pos pins s1 σ H _ I1 h) fun us s2 ⟨vs, H2, I2, r, q⟩ => ⟨I2.kIn, ?_⟩) he hpl
    have hl := r.length.symm.trans (F.many _ _ _ _ q)
    have bd := b s2 us I2.kIn (by rw [List.append_nil]; exact hl)
    rw [List.append_nil] at bd
    refine wpAny_call (codeAny_mono (goG F hG (hr.mono hj) I2 bd r q) fun r s' hq => ?_)
    cases r with
    | error e => exact False.elim hq
    | ok fl =>
      cases fl with
      | ret u => exact hq
      | next => exact False.elim hq
      | brk => exact False.elim hq
      | cont => exact False.elim hq
  · unfold mCallV at q
    split at q
    · rename_i n e
      obtain ⟨v, h1, h2⟩ := rl.val i _ e
      cases h2 with
      | @fn a _ x hx =>
        exact ⟨n, a, x, hx, h1, B, F, E, g, rl, Tree.all_mono (fun ds k vs F1 H1 e1 p1 => ⟨F1, ds, e1.good, p1, Tree.all_mono (fun z kz w F2 H2 e2 rz => kz w F2 H2 (e1.trans e2) rz) k⟩) (Tree.all_bind.mp q)⟩
    · exact q.elim
end
section
variable {P : Program} {w : World} {K : PySem.W.Frag} {mg : Str → Option Value} {base : Heap}
/-- the recursion's ground: never reached -/
theorem calG_fail {x : Str} {st : Stmt} {k : Nat} {ps : List Str} (a : At K mg x st)
    (hb : ∀ (kV doc pm : Value) (an : Option Addr) (cdv ct : Value) (us : List Value), us.length = ps.length → bindArgs (PySem.W.fnOf x x (defArgs st) (defBody st) (defScope st) .none kV doc pm an cdv ct) ⟨us, []⟩ = pure (ps.zip us)) : CalG P w K mg base k x (fun _ => fail) := by
  obtain ⟨f, fd, F, hm⟩ := a.ex
  refine ⟨f, fd, ps, ⟨fun vs H Q E h => ?_, fun A over s H args us vs Q E hG hr e0 bd r h => ?_⟩, hm, F.kp, F.binds hb⟩
  · obtain ⟨_, _, _, _, q⟩ := h
    exact q.elim
  · obtain ⟨_, _, _, _, q⟩ := h
    exact q.elim
end
end R

set_option Elab.async false
set_option linter.all false
set_option maxRecDepth 100000
set_option maxHeartbeats 2000000
/-! lists: extend, sorted (ints), pop of an own list -/
namespace R
open PySem PySem.Spec PyProof.Rows L2
open Tree (leaf fail)
section
variable {X : Cx} {x : Str} {p pos : Pos} {e : Expr} {m : En → Tree D}
/-- x.extend(e), x an own list, e a list -/
def oExt (i : Nat) (mv : En → Tree D) : En → Tree Out := fun E => mOwn i E fun _ => (mv E).bind fun v => mOwn i E fun ds => match v with
  | .lst es => if ds.length + es.length ≤ sizeLine then leaf (.nx (E.putOwn i (.lst (ds ++ es)))) else fail
  | _ => fail
theorem s_ext {i : Nat} {px apos cpos : Pos} {mv : En → Tree D} (hv : PE X (.Name x px) (tVar i)) (he : SP X e mv)
    (hb : attributeBase (.Name x px) "extend" X.env (eval (.Name x px) X.env) = eval (.Name x px) X.env := by rfl) (hl : (apos.endLine == cpos.line) = true := by rfl)
    (hfew : ((backTo cpos (starEach [e] X.env)).all (fun x => !x.1) && (backToKw cpos (keywordEach [] X.env)).all (fun x => x.1.isSome) && decide (([e] : List Expr).length + ([] : List Keyword).length + (if ([] : List Keyword).isEmpty then 0 else 1) < 30)) = true := by rfl)
    (hs : starEach [e] X.env = (false, eval e X.env) :: starEach [] X.env := by rfl) (hw : swapsWith (.Call (.Attribute (.Name x px) "extend" apos) [e] [] cpos) none pos.line X.env = pure false := by rfl) :
    SS X (.Expr (.Call (.Attribute (.Name x px) "extend" apos) [e] [] cpos) pos) (oExt i mv) := by
  refine ⟨PS.weak (ps_expr (pe_bm PySem.F.plainAttrs_list PySem.F.slot_list_extend PySem.F.type_list_extend mt_extend hv (pa_cons he.pe pa_nil hs) hb hfew hl hs (by rfl)) hw) fun D0 σ H ⟨F0, H0, F, E, ex, r, q⟩ => ?_⟩
  obtain ⟨ds0, o0, q⟩ := mOwn_all q
  obtain ⟨a, xs, _, g1, _, g3, _, _⟩ := r.own i _ o0
  refine ⟨.ref a, g1, .inl ⟨rfl, xs, .of g3⟩, B0 H0, F, E, ex.good, r, Tree.all_mono (fun d k v F1 H1 e1 p1 => ?_) (Tree.all_bind.mp q)⟩
  obtain ⟨ds, o1, k⟩ := mOwn_all k
  have r1 := r.ext e1
  obtain ⟨a', xs', ds', z1, zeq, z2, z3, _⟩ := r1.own i _ o1
  cases zeq
  rw [g1] at z1; cases z1
  cases d with
  | lst es =>
    have k : (if ds.length + es.length ≤ sizeLine then leaf (.nx (E.putOwn i (.lst (ds ++ es)))) else fail : Tree Out).all (Post X.K F0 H0 F D0) := k
    split at k
    · rename_i hlen
      obtain ⟨b, zs, rfl, hb', rz⟩ := p1.lst e1.good
      obtain ⟨a2, xs2, y1, y2, y3, y4, y5⟩ := own_put (ex.trans e1) r1 o1 (z3.append rz)
      rw [g1] at y1; cases y1
      rw [z2] at y2; cases y2
      exact ⟨a, b, xs', zs, rfl, rfl, z2, hb', by rw [z3.length, rz.length]; exact hlen, k σ F1 _ y4 e1.le y5⟩
    · exact k.elim
  | _ => exact False.elim k
/-! ### sorted: ints -/
def insI (i : Int) : List Int → List Int
  | [] => [i]
  | j :: js => if i ≤ j then i :: j :: js else j :: insI i js
def sortI : List Int → List Int
  | [] => []
  | i :: is => insI i (sortI is)
theorem insI_perm (i : Int) : ∀ js : List Int, (insI i js).Perm (i :: js)
  | [] => .refl _
  | j :: js => by
    unfold insI
    split
    · exact .refl _
    · exact ((insI_perm i js).cons j).trans (.swap i j js)
theorem sortI_perm : ∀ is : List Int, (sortI is).Perm is
  | [] => .refl _
  | i :: is => (insI_perm i _).trans ((sortI_perm is).cons i)
theorem insI_sorted (i : Int) : ∀ js : List Int, js.Pairwise (· ≤ ·) → (insI i js).Pairwise (· ≤ ·)
  | [], _ => by unfold insI; simp
  | j :: js, h => by
    unfold insI
    rw [List.pairwise_cons] at h
    split
    · rename_i hij
      rw [List.pairwise_cons, List.pairwise_cons]
      refine ⟨fun k hk => ?_, h⟩
      rcases List.mem_cons.mp hk with e | e
      · omega
      · have := h.1 k e; omega
    · rename_i hij
      rw [List.pairwise_cons]
      refine ⟨fun k hk => ?_, insI_sorted i js h.2⟩
      rcases List.mem_cons.mp ((insI_perm i js).mem_iff.mp hk) with e | e
      · omega
      · exact h.1 k e
theorem sortI_sorted : ∀ is : List Int, (sortI is).Pairwise (· ≤ ·)
  | [] => .nil
  | i :: is => insI_sorted i _ (sortI_sorted is)
theorem sorted_uniq : ∀ {xs ys : List Int}, xs.Perm ys → xs.Pairwise (· ≤ ·) → ys.Pairwise (· ≤ ·) → xs = ys
  | [], ys, h, _, _ => (List.nil_perm.mp h).symm
  | x :: xs, ys, h, hx, hy => by
    cases ys with
    | nil => exact absurd h.length_eq (by simp)
    | cons y ys =>
      rw [List.pairwise_cons] at hx hy
      have e : x = y := by
        have h1 := h.mem_iff.mp (List.mem_cons_self (a := x) (l := xs))
        have h2 := h.mem_iff.mpr (List.mem_cons_self (a := y) (l := ys))
        rcases List.mem_cons.mp h1 with e | e
        · exact e
        · rcases List.mem_cons.mp h2 with e2 | e2
          · exact e2.symm
          · have := hx.1 y e2
            have := hy.1 x e
            omega
      subst e
      rw [sorted_uniq (h.cons_inv) hx.2 hy.2]
def mSorted (m : En → Tree D) : En → Tree (List D) := fun E => (m E).bind fun d => match d with
  | .lst ds => match intsD ds with
    | some is => leaf ((sortI is).map D.int)
    | none => fail
  | _ => fail
theorem repsInts {K : PySem.W.Frag} {F : Fz} : ∀ is : List Int, Reps K F (is.map V.int) (is.map D.int)
  | [] => .nil
  | i :: is => .cons (.int i) (repsInts is)
theorem sl_sorted (hg : Gl X "sorted") (hm : X.mg "sorted" = none) (ha : SP X e m) (he : starEach (e :: []) X.env = (false, eval e X.env) :: starEach [] X.env := by rfl) : SL X (.Call (.Name "sorted" p) [e] [] pos) (mSorted m) := by
  refine ⟨PE.weak (pe_callB cr_sortedI hg hm (by decide +kernel) (pa_cons ha.pe pa_nil he) (by decide) (by decide) he (by rfl)) fun σ H Q ⟨B, F, E, g, rl, q⟩ => ?_⟩
  refine ⟨B, F, E, g, rl, Tree.all_mono (fun d k v F1 H1 e1 p1 => ?_) (Tree.all_bind.mp q)⟩
  cases d with
  | lst ds =>
    cases hi : intsD ds with
    | none =>
      have k : ((match intsD ds with | some is => leaf ((sortI is).map D.int) | none => fail) : Tree (List D)).all _ := k
      rw [hi] at k
      exact k.elim
    | some is =>
      have k : ((match intsD ds with | some is => leaf ((sortI is).map D.int) | none => fail) : Tree (List D)).all _ := k
      rw [hi] at k
      obtain ⟨a, xs, rfl, h1, r1⟩ := p1.lst e1.good
      have ex := ints_of hi r1
      subst ex
      refine ⟨a, is, rfl, .of h1, fun ns' l hp hs hl => ?_⟩
      have en : ns' = sortI is := sorted_uniq (hp.trans (sortI_perm is).symm) hs (sortI_sorted is)
      subst en
      have f := e1.good.free hl
      exact k l _ F1 _ (e1.trans (Ext.new e1.good hl)) upd_same f.1 f.2 (ext_none g e1 hl) (repsInts _)
  | _ => exact False.elim k
/-! ### x.append(y.pop(e)), x and y own lists -/
def oAppPop (i j : Nat) (mv : En → Tree D) : En → Tree Out := fun E => mOwn i E fun _ => mOwn j E fun _ => (mv E).bind fun d => match d with
  | .int k => mOwn j E fun es => if -(2 ^ 63) ≤ k ∧ k < 2 ^ 63 then match seqIndex? k es.length with
    | some n => match es[n]? with
      | some y => mOwn i (E.putOwn j (.lst (es.eraseIdx n))) fun ds => if ds.length < sizeLine then leaf (.nx ((E.putOwn j (.lst (es.eraseIdx n))).putOwn i (.lst (ds ++ [y])))) else fail
      | none => fail
    | none => fail
    else fail
  | _ => fail
theorem s_appPop {i j : Nat} {y : Str} {px apos cpos qx bpos dpos : Pos} {mv : En → Tree D} (hv : PE X (.Name x px) (tVar i)) (hy : PE X (.Name y qx) (tVar j)) (he : SP X e mv)
    (hb : attributeBase (.Name x px) "append" X.env (eval (.Name x px) X.env) = eval (.Name x px) X.env := by rfl) (hl : (apos.endLine == cpos.line) = true := by rfl)
    (hfew : ((backTo cpos (starEach [.Call (.Attribute (.Name y qx) "pop" bpos) [e] [] dpos] X.env)).all (fun x => !x.1) && (backToKw cpos (keywordEach [] X.env)).all (fun x => x.1.isSome) && decide (([.Call (.Attribute (.Name y qx) "pop" bpos) [e] [] dpos] : List Expr).length + ([] : List Keyword).length + (if ([] : List Keyword).isEmpty then 0 else 1) < 30)) = true := by rfl)
    (hs : starEach [.Call (.Attribute (.Name y qx) "pop" bpos) [e] [] dpos] X.env = (false, eval (.Call (.Attribute (.Name y qx) "pop" bpos) [e] [] dpos) X.env) :: starEach [] X.env := by rfl)
    (hb2 : attributeBase (.Name y qx) "pop" X.env (eval (.Name y qx) X.env) = eval (.Name y qx) X.env := by rfl) (hl2 : (bpos.endLine == dpos.line) = true := by rfl)
    (hfew2 : ((backTo dpos (starEach [e] X.env)).all (fun x => !x.1) && (backToKw dpos (keywordEach [] X.env)).all (fun x => x.1.isSome) && decide (([e] : List Expr).length + ([] : List Keyword).length + (if ([] : List Keyword).isEmpty then 0 else 1) < 30)) = true := by rfl)
    (hs2 : starEach [e] X.env = (false, eval e X.env) :: starEach [] X.env := by rfl)
    (hw : swapsWith (.Call (.Attribute (.Name x px) "append" apos) [.Call (.Attribute (.Name y qx) "pop" bpos) [e] [] dpos] [] cpos) none pos.line X.env = pure false := by rfl) :
    SS X (.Expr (.Call (.Attribute (.Name x px) "append" apos) [.Call (.Attribute (.Name y qx) "pop" bpos) [e] [] dpos] [] cpos) pos) (oAppPop i j mv) := by
  refine ⟨PS.weak (ps_expr (pe_bm PySem.F.plainAttrs_list PySem.F.slot_list_append PySem.F.type_list_append mt_append hv (pa_cons (pe_bm PySem.F.plainAttrs_list PySem.F.slot_list_pop PySem.F.type_list_pop mt_popAt hy (pa_cons he.pe pa_nil hs2) hb2 hfew2 hl2 hs2 (by rfl)) pa_nil hs) hb hfew hl hs (by rfl)) hw) fun D0 σ H ⟨F0, H0, F, E, ex, r, q⟩ => ?_⟩
  obtain ⟨ds0, o0, q⟩ := mOwn_all q
  obtain ⟨es0, p0, q⟩ := mOwn_all q
  obtain ⟨a, xs, _, g1, _, g3, _, _⟩ := r.own i _ o0
  obtain ⟨b, ys, _, h1, _, h3, _, _⟩ := r.own j _ p0
  refine ⟨.ref a, g1, .inl ⟨rfl, xs, .of g3⟩, .ref b, h1, .inl ⟨rfl, ys, .of h3⟩, B0 H0, F, E, ex.good, r, Tree.all_mono (fun d k v F1 H1 e1 p1 => ?_) (Tree.all_bind.mp q)⟩
  cases d with
  | int kk =>
    have k : (mOwn j E fun es => if -(2 ^ 63) ≤ kk ∧ kk < 2 ^ 63 then match seqIndex? kk es.length with
      | some n => match es[n]? with
        | some y => mOwn i (E.putOwn j (.lst (es.eraseIdx n))) fun ds => if ds.length < sizeLine then leaf (.nx ((E.putOwn j (.lst (es.eraseIdx n))).putOwn i (.lst (ds ++ [y])))) else fail
        | none => fail
      | none => fail
      else fail).all (Post X.K F0 H0 F D0) := k
    obtain ⟨es, o1, k⟩ := mOwn_all k
    have r1 := r.ext e1
    obtain ⟨b', ys', es', z1, zeq, z2, z3, _⟩ := r1.own j _ o1
    cases zeq
    rw [h1] at z1; cases z1
    split at k
    · rename_i hk
      cases hn : seqIndex? kk es.length with
      | none => rw [hn] at k; exact k.elim
      | some n =>
        rw [hn] at k
        have k : (match es[n]? with
          | some y => mOwn i (E.putOwn j (.lst (es.eraseIdx n))) fun ds => if ds.length < sizeLine then leaf (.nx ((E.putOwn j (.lst (es.eraseIdx n))).putOwn i (.lst (ds ++ [y])))) else fail
          | none => fail : Tree Out).all (Post X.K F0 H0 F D0) := k
        cases hy' : es[n]? with
        | none => rw [hy'] at k; exact k.elim
        | some dy =>
          rw [hy'] at k
          have k : (mOwn i (E.putOwn j (.lst (es.eraseIdx n))) fun ds => if ds.length < sizeLine then leaf (.nx ((E.putOwn j (.lst (es.eraseIdx n))).putOwn i (.lst (ds ++ [dy])))) else fail).all (Post X.K F0 H0 F D0) := k
          obtain ⟨vy, hvy, rvy⟩ := z3.get' hy'
          obtain ⟨b2, ys2, y1, y2, y3, y4, y5⟩ := own_put (ex.trans e1) r1 o1 (z3.eraseIdx n)
          rw [h1] at y1; cases y1
          rw [z2] at y2; cases y2
          cases p1.int
          refine ⟨b, ys', kk, n, vy, rfl, rfl, z2, hk.1, hk.2, by rw [z3.length]; exact hn, hvy, ?_⟩
          obtain ⟨ds, o2, k⟩ := mOwn_all k
          split at k
          · rename_i hlen
            obtain ⟨a', xs', ds', w1, weq, w2, w3, _⟩ := y5.own i _ o2
            cases weq
            rw [g1] at w1; cases w1
            obtain ⟨a2, xs2, u1, u2, u3, u4, u5⟩ := own_put y4 y5 o2 (w3.append (.cons rvy .nil))
            rw [g1] at u1; cases u1
            rw [w2] at u2; cases u2
            exact ⟨a, xs', vy, rfl, rfl, w2, by rw [w3.length]; exact hlen, k σ F1 _ u4 e1.le u5⟩
          · exact k.elim
    · exact k.elim
  | _ => exact False.elim k
end
end R

set_option Elab.async false
set_option linter.all false
set_option maxRecDepth 100000
set_option maxHeartbeats 2000000
/-! values that are new: defs that tell a new list; a told list is changed and forgotten -/
namespace R
open PySem PySem.Spec PyProof.Rows L2
open Tree (leaf fail)
/-- made behind H: the list (n = 0), its rows, too (n = 1) -/
def NewV (H : Hp) (v : V) : Prop := ∃ a, v = .ref a ∧ NT H a
def NewD (n : Nat) (H : Hp) (F : Fz) (v : V) : Prop := ∃ a, v = .ref a ∧ NT H a ∧ (n = 0 ∨ ∃ xs, F.P a = some (.lst xs) ∧ ∀ x ∈ xs, NewV H x)
theorem newV_back {F0 F : Fz} {H0 H : Hp} (e : Ext F0 H0 F H) {v : V} (h : NewV H v) : NewV H0 v := by
  obtain ⟨a, rfl, hn⟩ := h
  refine ⟨a, rfl, e.back hn fun t => ?_⟩
  obtain ⟨x, y, e1, _⟩ := (e.good.pot a (e.monoT a t)).2
  obtain ⟨ps, z⟩ := hn _ e1
  cases z
theorem newD_back {n : Nat} {F0 F F' : Fz} {H0 H : Hp} (e : Ext F0 H0 F H) {v : V} (h : NewD n H F' v) : NewD n H0 F' v := by
  obtain ⟨a, rfl, hn, h⟩ := h
  obtain ⟨a', ea, hn'⟩ := newV_back e (v := .ref a) ⟨a, rfl, hn⟩
  cases ea
  refine ⟨a, rfl, hn', h.imp id fun ⟨xs, h1, h2⟩ => ⟨xs, h1, fun x hx => newV_back e (h2 x hx)⟩⟩
def tEN (K : PySem.W.Frag) (n : Nat) (m : En → Tree D) : TE := fun σ H Q => ∃ B F E, Good F H ∧ RelE K B F H σ E ∧ (m E).all fun d => ∀ v F' H', Ext F H F' H' → Rep K F' v d → NewD n H F' v → Q v H'
structure SEN (X : Cx) (n : Nat) (e : Expr) (m : En → Tree D) : Prop where
  pe : PE X e (tEN X.K n m)
theorem SL.sen {X : Cx} {e : Expr} {m : En → Tree (List D)} (h : SL X e m) : SEN X 0 e (mList m) := ⟨PE.weak h.pe fun σ H Q ⟨B, F, E, g, r, q⟩ => ⟨B, F, E, g, r, Tree.all_mono (fun ds k a xs F' H' e h' n t h0 rp =>
  k (.ref a) (F'.add a (.lst xs)) H' (e.freeze h' n t h0) (.lst upd_same (rp.mono (Fz.le_add n))) ⟨a, rfl, h0, .inl rfl⟩) (Tree.all_bind.mp q)⟩⟩
/-- what has come since is let go -/
theorem Ext.roll {F0 F F2 : Fz} {H0 H H2 : Hp} (a : Ext F0 H0 F H) (b : Ext F H F2 H2) : Ext F0 H0 F H2 where
  good := by
    refine ⟨fun c o h => b.good.sub c o (b.mono c o h), fun c t => ?_, a.good.nt, b.good.tab, fun f o h => b.good.cod f o (b.mono f _ h)⟩
    have := b.good.pot c (b.monoT c t)
    refine ⟨?_, this.2⟩
    rcases hq : F.P c with _ | o
    · rfl
    · have h := this.1
      rw [b.mono c o hq] at h
      cases h
  mono := a.mono
  monoT := a.monoT
  keep := (a.trans b).keep
  fresh := a.fresh
/-- a def's promise: its list is new -/
def spN (K : PySem.W.Frag) (n : Nat) (f : List D → Tree D) : Sp := fun vs H Q _ => ∃ F ds, Good F H ∧ Reps K F vs ds ∧ (f ds).all fun d => ∀ v F' H', Ext F H F' H' → Rep K F' v d → NewD n H F' v → Q v H'
theorem newV_none {F : Fz} {H : Hp} {a : Addr} {o : HO} (g : Good F H) (n : NT H a) (h : F.P a = some o) : False := by
  obtain ⟨ps, e⟩ := n o (g.sub a o h)
  exact g.nt a ps (by rw [h, e])
theorem newV_pot {F : Fz} {H : Hp} {a : Addr} (g : Good F H) (n : NT H a) : ¬ F.T a := fun t => by
  obtain ⟨x, y, e, _⟩ := (g.pot a t).2
  obtain ⟨ps, z⟩ := n _ e
  cases z
/-! ### blocks that end by telling a new list -/
def PostN (K : PySem.W.Frag) (n : Nat) (F0 : Fz) (H0 : Hp) (F : Fz) (D0 : Ends) : Out → Prop
  | .nx E => PostE K F0 H0 F D0.nx E
  | .rt d => ∀ v F' H', Ext F0 H0 F' H' → F.Le F' → Rep K F' v d → NewD n H0 F' v → D0.rt v H'
  | _ => False
theorem PostN.le {K : PySem.W.Frag} {n : Nat} {F0 F F1 : Fz} {H0 : Hp} {D0 : Ends} {o : Out} (l : F.Le F1) (h : PostN K n F0 H0 F D0 o) : PostN K n F0 H0 F1 D0 o := by
  cases o with
  | nx E => exact fun σ' F' H' e l' r => h σ' F' H' e (l.trans l') r
  | rt d => exact fun v F' H' e l' r => h v F' H' e (l.trans l') r
  | bk E => exact h
  | ct E => exact h
def tSN (K : PySem.W.Frag) (n : Nat) (m : En → Tree Out) : TS := fun D0 σ H => ∃ F0 H0 F E, Ext F0 H0 F H ∧ RelE K (B0 H0) F H σ E ∧ (m E).all (PostN K n F0 H0 F D0)
structure SSN (X : Cx) (n : Nat) (ss : List Stmt) (m : En → Tree Out) : Prop where
  ps : PSs X ss (tSN X.K n m)
section
variable {X : Cx} {n : Nat} {st : Stmt} {rest : List Stmt} {m m' : En → Tree Out} {pos : Pos} {e : Expr}
theorem ssn_ret {me : En → Tree D} (h : SEN X n e me) : SSN X n [.Return (some e) pos] (oRet me) := ⟨PSs.weak (pss_one (ps_ret h.pe)) fun D0 σ H ⟨F0, H0, F, E, ex, r, q⟩ =>
  ⟨B0 H0, F, E, ex.good, r, Tree.all_mono (fun d k v F' H' e' p nv => by
    exact (show PostN X.K n F0 H0 F D0 (.rt d) from k) _ F' H' (ex.trans e') e'.le p (newD_back ex nv)) (Tree.all_bind.mp q)⟩⟩
/-- a statement that does not tell, then the rest -/
def oSeqN (m n : En → Tree Out) : En → Tree Out := fun E => (m E).bind fun o => match o with
  | .nx E' => n E'
  | _ => fail
theorem ssn_cons (h1 : SS X st m) (h2 : SSN X n rest m') : SSN X n (st :: rest) (oSeqN m m') := by
  refine ⟨PSs.weak (pss_cons h1.ps h2.ps) fun D0 σ H ⟨F0, H0, F, E, e, r, q⟩ => ?_⟩
  refine ⟨F0, H0, F, E, e, r, Tree.all_mono (fun o k => ?_) (Tree.all_bind.mp q)⟩
  cases o with
  | nx E' => exact fun σ' F' H' e' l r' => ⟨F0, H0, F', E', e', r', Tree.all_mono (fun o h => PostN.le l h) k⟩
  | rt d => exact False.elim k
  | bk E' => exact False.elim k
  | ct E' => exact False.elim k
end
def mDefN (np n : Nat) (m : En → Tree Out) : List D → Tree D := fun ds => if ds.length = np then (m (En.start n ds)).bind fun o => match o with
  | .rt d => leaf d
  | _ => fail
  else fail
section
variable {P : Program} {w : World} {K : PySem.W.Frag} {mg : Str → Option Value} {base : Heap}
theorem spN_len {z np n : Nat} {m : En → Tree Out} {vs : List V} {H : Hp} {Q : VK} {E : XK} (h : spN K z (mDefN np n m) vs H Q E) : vs.length = np := by
  obtain ⟨F, ds, g, r, q⟩ := h
  unfold mDefN at q
  split at q
  · rename_i hl; rw [r.length]; exact hl
  · exact q.elim
theorem def_okN {x qual : Str} {st : Stmt} {f : Addr} {fd : FuncData} {N ps : List Str} {k z : Nat} {m : En → Tree Out} (np n : Nat) (F : Fun K x qual st f fd) (S : FnScope N ps (defScope st)) (hn : N.length = n) (hp : ps.length = np)
    (hbody : ∀ (cdv : Value) (A : Around) (outer : List Env) (s : Shared) (H : Hp) (E : XK), fd.code = cdv → Gd A → Room k (A.deeper (envOfC qual (defScope st) s.heap.objs.size f cdv)) →
      SSN (cxOf CX0 P w K mg base N qual (defScope st) f cdv A outer s H E).nox z (defBody st) m) : FnG P w K mg base (k + 1) f fd ps (spN K z (mDefN np n m)) := by
  subst hn hp
  refine fnG_body F S (fun vs H Q E h => spN_len h) (fun cdv A outer s H vs Q E hcv hG hr h => ?_)
  obtain ⟨F, ds, g, r, q⟩ := h
  refine ⟨_, (hbody cdv A outer s H E hcv hG hr).ps, F, H, F, En.start N.length ds, Ext.refl g, rel_start r N, ?_⟩
  unfold mDefN at q
  split at q
  · refine Tree.all_mono (fun o k => ?_) (Tree.all_bind.mp q)
    cases o with
    | nx E => exact False.elim k
    | rt d => exact fun v F' H' e l r nv => k v F' H' e r nv
    | bk E => exact False.elim k
    | ct E => exact False.elim k
  · exact q.elim
/-- the promise without newness -/
theorem FnG.ofN {k z : Nat} {f : Addr} {fd : FuncData} {ps : List Str} {fn : List D → Tree D} (F : FnG P w K mg base k f fd ps (spN K z fn)) : FnG P w K mg base k f fd ps (spF K fn) :=
  ⟨fun vs H Q E ⟨F', ds, g, r, q⟩ => F.many vs H Q E ⟨F', ds, g, r, Tree.all_mono (fun d k v F2 H2 e rv _ => k v F2 H2 e rv) q⟩,
   fun A over s H args us vs Q E hG hr e0 bd r ⟨F', ds, g, rr, q⟩ => F.goes A over s H args us vs Q E hG hr e0 bd r ⟨F', ds, g, rr, Tree.all_mono (fun d k v F2 H2 e rv _ => k v F2 H2 e rv) q⟩⟩
structure CalN (P : Program) (w : World) (K : PySem.W.Frag) (mg : Str → Option Value) (base : Heap) (k z : Nat) (x : Str) (fn : List D → Tree D) : Prop where
  ex : ∃ (f : Addr) (fd : FuncData) (ps : List Str), FnG P w K mg base k f fd ps (spN K z fn) ∧ mg x = some (.ref f) ∧ PySem.W.keepIn K (.ref f) = true ∧ Binds K fd ps []
end
section
variable {X : Cx} {k j z : Nat} {x : Str} {fn : List D → Tree D} {p pos : Pos} {e : Expr} {es : List Expr} {ma : En → Tree (List D)}
theorem sen_call (c : CalN X.prog X.w X.K X.mg X.base k z x fn) (hG : Gd X.A) (hr : Room j X.A) (hk : k ≤ j) (hg : Gl X x) (ha : SA X (e :: es) ma) (hdb : (x == ("__debug__" : Str)) = false := by decide)
    (he : starEach (e :: es) X.env = (false, eval e X.env) :: starEach es X.env := by rfl) (hpl : (backTo pos (starEach es X.env)).any (·.1) = false := by rfl) : SEN X z (.Call (.Name x p) (e :: es) [] pos) (mA fn ma) := by
  obtain ⟨f, fd, ps, F, hm, kp, hb⟩ := c.ex
  refine ⟨PE.weak (t := fun σ H Q => tA X.K ma σ H fun vs H1 => spN X.K z fn vs H1 Q E0) ⟨fun pins s σ H Q I h => ?_⟩ fun σ H Q ⟨B, F, E, g, rl, q⟩ => ?_⟩
  · refine wpAny_Call_Name_kw (ld_glob I hg hm ?_ hdb)
    refine PySem.W.callWith_K (h₀ := X.base) I.ok.mod.kin kp (thn (ha.pa.run pos pins s σ H _ I h) fun us s1 ⟨vs, H1, I1, r, q⟩ => ⟨I1.kIn, ?_⟩) he hpl
    have hl := r.length.symm.trans (F.many _ _ _ _ q)
    have bd := hb s1 us I1.kIn (by rw [List.append_nil]; exact hl)
    rw [List.append_nil] at bd
    refine wpAny_call (codeAny_mono (goG F hG (hr.mono hk) I1 bd r q) fun r s' hq => ?_)
    cases r with
    | error e => exact False.elim hq
    | ok fl =>
      cases fl with
      | ret u => exact hq
      | next => exact False.elim hq
      | brk => exact False.elim hq
      | cont => exact False.elim hq
  · exact ⟨B, F, E, g, rl, Tree.all_mono (fun ds k vs F1 H1 e1 p1 => ⟨F1, ds, e1.good, p1, Tree.all_mono (fun z kz w F2 H2 e2 rz nv => by
      exact kz _ F2 H2 (e1.trans e2) rz (newD_back e1 nv)) k⟩) (Tree.all_bind.mp q)⟩
/-- told = e; if c: return False; told.append(None); the rest -/
def oTold (i : Nat) (me : En → Tree D) (mt : En → Tree Bool) (mr : En → Tree Out) : En → Tree Out := fun E => (me E).bind fun d => match d with
  | .lst ds => if ds.length < sizeLine ∧ i < E.length then (mt (E.put i (.lst ds))).bind fun c => if c = true then leaf (.rt (.bl false)) else mr (E.set i none) else fail
  | _ => fail
theorem s_told {i : Nat} {rest : List Stmt} {c : Expr} {me : En → Tree D} {mt : En → Tree Bool} {mr : En → Tree Out} {p1 p2 p4 p5 p6 p7 p9 p10 : Pos} {r1 c1 : Expr} (hN : X.N.Nodup) (hi : X.N[i]? = some x) (hx : Loc X.env.scope x) (hf : X.fn x = true ∨ X.env.scope.names.lookup x = some .local)
    (he : SEN X 0 e me) (hv : PE X (.Name x p6) (tVar i)) (ht : ST X c mt) (hr1 : PE X r1 (tC (.bl false))) (hc1 : PE X c1 (tC .non)) (hrest : SSs X rest mr)
    (hs0 : swapsWith e (some (.Name x p1)) p2.line X.env = pure false := by rfl)
    (hb : attributeBase (.Name x p6) "append" X.env (eval (.Name x p6) X.env) = eval (.Name x p6) X.env := by rfl) (hl : (p7.endLine == p9.line) = true := by rfl)
    (hfew : ((backTo p9 (starEach [c1] X.env)).all (fun x => !x.1) && (backToKw p9 (keywordEach [] X.env)).all (fun x => x.1.isSome) && decide (([c1] : List Expr).length + ([] : List Keyword).length + (if ([] : List Keyword).isEmpty then 0 else 1) < 30)) = true := by rfl)
    (hs : starEach [c1] X.env = (false, eval c1 X.env) :: starEach [] X.env := by rfl) (hw : swapsWith (.Call (.Attribute (.Name x p6) "append" p7) [c1] [] p9) none p10.line X.env = pure false := by rfl) :
    SSs X (.Assign [.Name x p1] e p2 :: .If c [.Return (some r1) p4] [] p5 :: .Expr (.Call (.Attribute (.Name x p6) "append" p7) [c1] [] p9) p10 :: rest) (oTold i me mt mr) := by
  refine ⟨PSs.weak (pss_cons (ps_set hN hi hx he.pe hs0 hf) (pss_cons (ps_if ht.pt (pss_one (ps_ret hr1)) pss_nil) (pss_cons (ps_expr (pe_bm PySem.F.plainAttrs_list PySem.F.slot_list_append PySem.F.type_list_append mt_append hv (pa_cons hc1 pa_nil hs) hb hfew hl hs (by rfl)) hw) hrest.ps))) fun D0 σ H ⟨F0, H0, F, E, ex, r, q⟩ => ?_⟩
  refine ⟨B0 H0, F, E, ex.good, r, Tree.all_mono (fun d k v F1 H1 e1 rv nv => ?_) (Tree.all_bind.mp q)⟩
  cases d with
  | lst ds =>
    have k : (if ds.length < sizeLine ∧ i < E.length then (mt (E.put i (.lst ds))).bind fun c => if c = true then leaf (.rt (.bl false)) else mr (E.set i none) else fail : Tree Out).all (Post X.K F0 H0 F D0) := k
    split at k
    · rename_i hlen
      obtain ⟨hlen, hil⟩ := hlen
      obtain ⟨a, rfl, hn, _⟩ := nv
      cases rv with
      | @lst _ xs _ hP rs =>
        have r1' := (r.ext e1).put i (Rep.lst hP rs)
        refine ⟨B0 H0, F1, E.put i (.lst ds), e1.good, r1', Tree.all_mono (fun b kb F2 H2 e2 => ?_) (Tree.all_bind.mp k)⟩
        cases b with
        | true =>
          have kb : Post X.K F0 H0 F D0 (.rt (.bl false)) := kb
          exact kb (.bl false) F2 H2 ((ex.trans e1).trans e2) (e1.le.trans e2.le) (.bl false)
        | false =>
          have kb : (mr (E.set i none)).all (Post X.K F0 H0 F D0) := kb
          have hH2 : H2 a = some (.lst xs) := e2.good.sub a _ (e2.mono a _ hP)
          have np : F.P a = none := by
            rcases hq : F.P a with _ | o
            · rfl
            · exact (newV_none ex.good hn hq).elim
          have nt := newV_pot ex.good hn
          have h0 : NT H0 a := ex.back hn fun t => nt (ex.monoT a t)
          have ex2 : Ext F0 H0 F H2 := ex.roll (e1.trans e2)
          have ex3 : Ext F0 H0 F (upd H2 a (.lst (xs ++ [.non]))) := ex2.write np nt h0 ⟨xs, hH2⟩
          refine ⟨.ref a, ?_, .inl ⟨rfl, xs, .of hH2⟩, a, xs, .non, rfl, rfl, hH2, by rw [rs.length]; exact hlen, F0, H0, F, E.set i none, ex3, ?_, kb⟩
          · exact List.getElem?_set_self (by rw [r.len]; exact hil)
          · have e12 := e1.trans e2
            refine ⟨by simp [r.len], fun j d hj => ?_, fun j d hj => ?_, fun j k x y c hjk hx hy ha => ?_⟩
            · by_cases q : i = j
              · subst q; rw [List.getElem?_set_self hil] at hj; cases hj
              · rw [List.getElem?_set_ne q] at hj ⊢; exact r.val j d hj
            · by_cases q : i = j
              · subst q; rw [List.getElem?_set_self hil] at hj; cases hj
              · rw [List.getElem?_set_ne q] at hj ⊢
                obtain ⟨b, zs, fs, g1, g2, g3, g4, g5, g6, g7⟩ := r.own j d hj
                have ne : b ≠ a := fun z => by
                  subst z
                  obtain ⟨ps, z⟩ := hn _ g3
                  cases z
                exact ⟨b, zs, fs, g1, g2, by rw [upd_ne ne]; exact e12.keep b _ g3 g6 (fun ps z => by cases z), g4, g5, g6, g7⟩
            · have fix : ∀ (j : Nat) (d : D), (E.set i none)[j]? = some (some ⟨true, d⟩) → i ≠ j ∧ E[j]? = some (some ⟨true, d⟩) := fun j d hj => by
                by_cases q : i = j
                · subst q; rw [List.getElem?_set_self hil] at hj; cases hj
                · rw [List.getElem?_set_ne q] at hj; exact ⟨q, hj⟩
              obtain ⟨n1, hx⟩ := fix j x hx
              obtain ⟨n2, hy⟩ := fix k y hy
              rw [List.getElem?_set_ne n1] at ha
              rw [List.getElem?_set_ne n2]
              exact r.dist j k x y c hjk hx hy ha
    · exact k.elim
  | _ => exact False.elim k
end
end R

set_option Elab.async false
set_option linter.all false
set_option maxRecDepth 100000
set_option maxHeartbeats 2000000
/-! lists whose rows are new, too -/
namespace R
open PySem PySem.Spec PyProof.Rows L2
open Tree (leaf fail)
def tLN (K : PySem.W.Frag) (m : En → Tree (List D)) : TE := fun σ H Q => ∃ B F E, Good F H ∧ RelE K B F H σ E ∧ (m E).all fun ds => ∀ a xs F' H', Ext F H F' H' → H' a = some (.lst xs) → F'.P a = none → ¬ F'.T a → NT H a → Reps K F' xs ds → (∀ x ∈ xs, NewV H x) → Q (.ref a) H'
structure SLN (X : Cx) (e : Expr) (m : En → Tree (List D)) : Prop where
  pe : PE X e (tLN X.K m)
theorem SLN.sen {X : Cx} {e : Expr} {m : En → Tree (List D)} (h : SLN X e m) : SEN X 1 e (mList m) := ⟨PE.weak h.pe fun σ H Q ⟨B, F, E, g, r, q⟩ => ⟨B, F, E, g, r, Tree.all_mono (fun ds k a xs F' H' e h' n t h0 rp nw =>
  k (.ref a) (F'.add a (.lst xs)) H' (e.freeze h' n t h0) (.lst upd_same (rp.mono (Fz.le_add n))) ⟨a, rfl, h0, .inr ⟨xs, upd_same, nw⟩⟩) (Tree.all_bind.mp q)⟩⟩
theorem lc_wN {K : PySem.W.Frag} {wi : TI} {mi : En → Tree (List D)} {js vs : List Nat} {g : D → En → Tree En} {mt : En → Tree Bool} {me : En → Tree D} {σ : L2.St} {H : Hp} {Q : VK}
    (h2 : ∀ σ H R, (∃ B F E, Good F H ∧ RelE K B F H σ E ∧ (mi E).all fun ds => ∀ J F' H', Ext F H F' H' → Yld K J (fun F2 H2 => Ext F' H' F2 H2) ds → R J H') → wi σ H R) (hj : ∀ j ∈ js, j ∈ vs)
    (h : tLN K (mLc mi vs g mt me) σ H Q) : tLc wi (tG K js g) (tT K mt) (tEN K 0 me) vs σ H Q := by
  obtain ⟨B, F, E, gd, rl, q⟩ := h
  refine h2 σ H _ ⟨B, F, E, gd, rl, Tree.all_mono (fun ds k J F1 H1 e1 y => ?_) (Tree.all_bind.mp q)⟩
  obtain ⟨hz, k⟩ := lineOk_all k
  intro L hL
  -- the new list
  have g1 : Good F1 (upd H1 L (.lst [])) := e1.good.new hL
  have n1 := e1.good.free hL
  have e2 : Ext F1 H1 F1 (upd H1 L (.lst [])) := Ext.new e1.good hL
  refine ⟨fun i n H' => n = ds.length - i ∧ ∃ F' acc xs, Ext F1 H1 F' H' ∧ H' L = some (.lst xs) ∧ F'.P L = none ∧ ¬ F'.T L ∧ Reps K F' xs acc ∧ (∀ x ∈ xs, NewV H x) ∧ acc.length ≤ i ∧
    ((lcLoop g mt me (wipeE E vs) (ds.drop i)).all fun r => ∀ a xs F'' H'', Ext F H F'' H'' → H'' a = some (.lst xs) → F''.P a = none → ¬ F''.T a → NT H a → Reps K F'' xs (acc ++ r) → (∀ x ∈ xs, NewV H x) → Q (.ref a) H''),
    ⟨ds.length, rfl, F1, [], [], e2, upd_same, n1.1, n1.2, .nil, (fun x hx => nomatch hx), Nat.zero_le _, k⟩, ?_⟩
  rintro i n H' ⟨rfl, F', acc, xs, e', hL', np, nt, ra, hnw, hai, q'⟩
  obtain ⟨y1, y2⟩ := y F' H' e' e'.good i
  have h0 : NT H L := ext_none gd e1 hL
  by_cases hi : i < ds.length
  · have hd : ds[i]? = some ds[i] := List.getElem?_eq_getElem hi
    obtain ⟨go, yl⟩ := y1 _ hd
    rw [List.drop_eq_getElem_cons hi] at q'
    refine .inr ⟨go, fun H3 => ∃ F' acc xs, Ext F1 H1 F' H3 ∧ H3 L = some (.lst xs) ∧ F'.P L = none ∧ ¬ F'.T L ∧ Reps K F' xs acc ∧ (∀ x ∈ xs, NewV H x) ∧ acc.length ≤ i + 1 ∧
      ((lcLoop g mt me (wipeE E vs) (ds.drop (i + 1))).all fun r => ∀ a xs F'' H'', Ext F H F'' H'' → H'' a = some (.lst xs) → F''.P a = none → ¬ F''.T a → NT H a → Reps K F'' xs (acc ++ r) → (∀ x ∈ xs, NewV H x) → Q (.ref a) H''),
      fun H3 p => ⟨ds.length - (i + 1), by omega, rfl, p⟩, fun x H3 yx => ?_⟩
    obtain ⟨F3, e3, rx⟩ := yl x H3 yx
    have er := (e1.trans e').trans e3
    obtain ⟨hL3, np3, nt3⟩ := own_ext e3 hL' np nt
    refine ⟨B, F3, wipeE E vs, ds[i], e3.good, (rl.ext er).wipe vs, rx, Tree.all_mono (fun E' k σ' r' b' => ?_) (Tree.all_bind.mp q')⟩
    have hw : L2.wipe σ' vs = L2.wipe σ vs := by
      rw [wipe_but (b'.mono hj)]
      exact wipe_wipe
    refine ⟨hw, B, F3, E', e3.good, r', Tree.all_mono (fun b k F4 H4 e4 => ?_) (Tree.all_bind.mp k)⟩
    obtain ⟨hL4, np4, nt4⟩ := own_ext e4 hL3 np3 nt3
    cases b with
    | false =>
      rw [if_neg Bool.false_ne_true] at k ⊢
      exact ⟨F4, acc, xs, (e'.trans e3).trans e4, hL4, np4, nt4, ra.mono (e3.le.trans e4.le), hnw, by omega, k⟩
    | true =>
      rw [if_pos rfl] at k ⊢
      refine ⟨B, F4, E', e4.good, r'.ext e4, Tree.all_mono (fun d k y F5 H5 e5 ry nv => ?_) (Tree.all_bind.mp k)⟩
      obtain ⟨hL5, np5, nt5⟩ := own_ext e5 hL4 np4 nt4
      have hnw5 : ∀ x ∈ xs ++ [y], NewV H x := fun x hx => by
        rcases List.mem_append.mp hx with hx | hx
        · exact hnw x hx
        · rw [List.mem_singleton.mp hx]
          obtain ⟨b, rfl, hb, _⟩ := nv
          exact newV_back (er.trans e4) ⟨b, rfl, hb⟩
      refine ⟨xs, hL5, by rw [ra.length]; omega, F5, acc ++ [d], xs ++ [y], (((e'.trans e3).trans e4).trans e5).write np5 nt5 (.none hL) ⟨_, hL5⟩, upd_same, np5, nt5, (ra.mono ((e3.le.trans e4.le).trans e5.le)).append (.cons ry .nil), hnw5, by rw [List.length_append]; show acc.length + 1 ≤ i + 1; omega, ?_⟩
      refine Tree.all_mono (fun r k => ?_) (Tree.all_bind.mp k)
      intro a zs F'' H'' e'' z1 z2 z3 z4 z5 z6
      exact k a zs F'' H'' e'' z1 z2 z3 z4 (by rw [List.append_assoc] at z5; exact z5) z6
  · refine .inl ⟨y2 (by omega), ?_⟩
    rw [List.drop_eq_nil_of_le (by omega)] at q'
    have q' := q' L xs F' H' (e1.trans e') hL' np nt h0
    rw [List.append_nil] at q'
    exact q' ra hnw

theorem sln_lc {X : Cx} {elt tg iter : Expr} {ifs : List Expr} {scope : Scope} {own : List (Str × Nat)} {pos : Pos} {mi : En → Tree (List D)} {js : List Nat} {g : D → En → Tree En} {mt : En → Tree Bool} {me : En → Tree D}
    (hc : X.calm = true) (hN : X.N.Nodup) (hi : SIp X tg iter mi) (ok : BlkOk X.N X.env.scope scope own)
    (hg : ∀ (s : Shared) (H : Hp) (C : Addr) (cl : List (Str × Addr)) (fp : List Addr), SG (X.blk s H scope (compEnvC scope cl C X.env) fp) tg js g) (ht : ∀ (s : Shared) (H : Hp) (C : Addr) (cl : List (Str × Addr)) (fp : List Addr), STs (X.blk s H scope (compEnvC scope cl C X.env) fp) ifs mt)
    (he : ∀ (s : Shared) (H : Hp) (C : Addr) (cl : List (Str × Addr)) (fp : List Addr), SEN (X.blk s H scope (compEnvC scope cl C X.env) fp) 0 elt me) (hj : ∀ j ∈ js, j ∈ own.map (·.2)) (hs : ∀ x, foldedSetIterable iter X.env x = pure x := by intro _; rfl) :
    SLN X (.ListComp elt [⟨tg, iter, ifs, 0⟩] scope pos) (mLc mi (own.map (·.2)) g mt me) := by
  obtain ⟨wi, h1, h2⟩ := hi.pi
  exact ⟨PE.weak (pe_lc hc hN h1 ok (fun s H C cl fp => (hg s H C cl fp).pg) (fun s H C cl fp => (ht s H C cl fp).pts) (fun s H C cl fp => (he s H C cl fp).pe) hs) fun σ H Q h => lc_wN h2 hj h⟩
theorem atI0 (x : V) (xs : List V) : atI (x :: xs) 0 = some x := by
  unfold atI ixN
  rw [if_pos (by omega), if_pos (by simp)]
  rfl
section
variable {X : Cx} {x : Str} {e : Expr}
/-- told = e; if c: return False; told[0].append(None); the rest -/
def oTold0 (i : Nat) (me : En → Tree D) (mt : En → Tree Bool) (mr : En → Tree Out) : En → Tree Out := fun E => (me E).bind fun d => match d with
  | .lst (.lst ds :: es) => if ds.length < sizeLine ∧ i < E.length then (mt (E.put i (.lst (.lst ds :: es)))).bind fun c => if c = true then leaf (.rt (.bl false)) else mr (E.set i none) else fail
  | _ => fail
theorem s_told0 {i : Nat} {rest : List Stmt} {c : Expr} {me : En → Tree D} {mt : En → Tree Bool} {mr : En → Tree Out} {p1 p2 p4 p5 p6 p7 p9 p10 : Pos} {r1 c1 : Expr} {p11 p12 : Pos} {kk : Nat} (hN : X.N.Nodup) (hi : X.N[i]? = some x) (hx : Loc X.env.scope x) (hf : X.fn x = true ∨ X.env.scope.names.lookup x = some .local)
    (he : SEN X 1 e me) (hv : PE X (.Name x p6) (tVar i)) (ht : ST X c mt) (hr1 : PE X r1 (tC (.bl false))) (hc1 : PE X c1 (tC .non)) (hrest : SSs X rest mr)
    (hs0 : swapsWith e (some (.Name x p1)) p2.line X.env = pure false := by rfl)
    (hb : attributeBase (.Subscript (.Name x p6) (.Constant (.int 0) kk p11) p12) "append" X.env (eval (.Subscript (.Name x p6) (.Constant (.int 0) kk p11) p12) X.env) = eval (.Subscript (.Name x p6) (.Constant (.int 0) kk p11) p12) X.env := by rfl) (hl : (p7.endLine == p9.line) = true := by rfl)
    (hfew : ((backTo p9 (starEach [c1] X.env)).all (fun x => !x.1) && (backToKw p9 (keywordEach [] X.env)).all (fun x => x.1.isSome) && decide (([c1] : List Expr).length + ([] : List Keyword).length + (if ([] : List Keyword).isEmpty then 0 else 1) < 30)) = true := by rfl)
    (hs : starEach [c1] X.env = (false, eval c1 X.env) :: starEach [] X.env := by rfl) (hw : swapsWith (.Call (.Attribute (.Subscript (.Name x p6) (.Constant (.int 0) kk p11) p12) "append" p7) [c1] [] p9) none p10.line X.env = pure false := by rfl) :
    SSs X (.Assign [.Name x p1] e p2 :: .If c [.Return (some r1) p4] [] p5 :: .Expr (.Call (.Attribute (.Subscript (.Name x p6) (.Constant (.int 0) kk p11) p12) "append" p7) [c1] [] p9) p10 :: rest) (oTold0 i me mt mr) := by
  refine ⟨PSs.weak (pss_cons (ps_set hN hi hx he.pe hs0 hf) (pss_cons (ps_if ht.pt (pss_one (ps_ret hr1)) pss_nil) (pss_cons (ps_expr (pe_bm PySem.F.plainAttrs_list PySem.F.slot_list_append PySem.F.type_list_append mt_append (pe_ix ix_list hv pe_int (fun _ _ => rfl)) (pa_cons hc1 pa_nil hs) hb hfew hl hs (by rfl)) hw) hrest.ps))) fun D0 σ H ⟨F0, H0, F, E, ex, r, q⟩ => ?_⟩
  refine ⟨B0 H0, F, E, ex.good, r, Tree.all_mono (fun d k v F1 H1 e1 rv nv => ?_) (Tree.all_bind.mp q)⟩
  cases rv with
  | @lst a xs ds0 hP rs =>
    cases rs with
    | nil => exact False.elim k
    | @cons x0 d0 xs' es r0 rs' =>
      cases r0 with
      | @lst b ys ds hPb rsb =>
        have k : (if ds.length < sizeLine ∧ i < E.length then (mt (E.put i (.lst (.lst ds :: es)))).bind fun c => if c = true then leaf (.rt (.bl false)) else mr (E.set i none) else fail : Tree Out).all (Post X.K F0 H0 F D0) := k
        split at k
        · rename_i hlen
          obtain ⟨hlen, hil⟩ := hlen
          obtain ⟨a', ea, hna, hnx⟩ := nv
          cases ea
          obtain ⟨b', eb, hn⟩ : NewV H (.ref b) := by
            rcases hnx with z | ⟨zs, hz, hzs⟩
            · cases z
            · rw [hP] at hz
              cases hz
              exact hzs _ List.mem_cons_self
          cases eb
          have r1' := (r.ext e1).put i (Rep.lst hP (.cons (.lst hPb rsb) rs'))
          refine ⟨B0 H0, F1, E.put i (.lst (.lst ds :: es)), e1.good, r1', Tree.all_mono (fun bb kb F2 H2 e2 => ?_) (Tree.all_bind.mp k)⟩
          cases bb with
          | true =>
            have kb : Post X.K F0 H0 F D0 (.rt (.bl false)) := kb
            exact kb (.bl false) F2 H2 ((ex.trans e1).trans e2) (e1.le.trans e2.le) (.bl false)
          | false =>
            have kb : (mr (E.set i none)).all (Post X.K F0 H0 F D0) := kb
            have hHa : H2 a = some (.lst (.ref b :: xs')) := e2.good.sub a _ (e2.mono a _ hP)
            have hH2 : H2 b = some (.lst ys) := e2.good.sub b _ (e2.mono b _ hPb)
            have np : F.P b = none := by
              rcases hq : F.P b with _ | o
              · rfl
              · exact (newV_none ex.good hn hq).elim
            have nt := newV_pot ex.good hn
            have h0 : NT H0 b := ex.back hn fun t => nt (ex.monoT b t)
            have ex2 : Ext F0 H0 F H2 := ex.roll (e1.trans e2)
            have ex3 : Ext F0 H0 F (upd H2 b (.lst (ys ++ [.non]))) := ex2.write np nt h0 ⟨ys, hH2⟩
            refine ⟨.ref a, List.getElem?_set_self (by rw [r.len]; exact hil), a, .ref b :: xs', 0, .ref b, rfl, rfl, .of hHa, atI0 _ _, .inl ⟨rfl, ys, .of hH2⟩, b, ys, .non, rfl, rfl, hH2, by rw [rsb.length]; exact hlen, F0, H0, F, E.set i none, ex3, ?_, kb⟩
            have e12 := e1.trans e2
            refine ⟨by simp [r.len], fun j d hj => ?_, fun j d hj => ?_, fun j k x y c hjk hx hy ha => ?_⟩
            · by_cases q : i = j
              · subst q; rw [List.getElem?_set_self hil] at hj; cases hj
              · rw [List.getElem?_set_ne q] at hj ⊢; exact r.val j d hj
            · by_cases q : i = j
              · subst q; rw [List.getElem?_set_self hil] at hj; cases hj
              · rw [List.getElem?_set_ne q] at hj ⊢
                obtain ⟨c, zs, fs, g1, g2, g3, g4, g5, g6, g7⟩ := r.own j d hj
                have ne : c ≠ b := fun z => by
                  subst z
                  obtain ⟨ps, z⟩ := hn _ g3
                  cases z
                exact ⟨c, zs, fs, g1, g2, by rw [upd_ne ne]; exact e12.keep c _ g3 g6 (fun ps z => by cases z), g4, g5, g6, g7⟩
            · have fix : ∀ (j : Nat) (d : D), (E.set i none)[j]? = some (some ⟨true, d⟩) → i ≠ j ∧ E[j]? = some (some ⟨true, d⟩) := fun j d hj => by
                by_cases q : i = j
                · subst q; rw [List.getElem?_set_self hil] at hj; cases hj
                · rw [List.getElem?_set_ne q] at hj; exact ⟨q, hj⟩
              obtain ⟨n1, hx⟩ := fix j x hx
              obtain ⟨n2, hy⟩ := fix k y hy
              rw [List.getElem?_set_ne n1] at ha
              rw [List.getElem?_set_ne n2]
              exact r.dist j k x y c hjk hx hy ha
        · exact k.elim
      | _ => exact False.elim k
  | _ => exact False.elim k
end
/-! ### x, y = L1, L2: two own lists -/
section
variable {X : Cx}
def oParLL (i j : Nat) (m1 m2 : En → Tree (List D)) : En → Tree Out := fun E => (m1 E).bind fun ds => (m2 E).bind fun es => leaf (.nx ((E.putOwn i (.lst ds)).putOwn j (.lst es)))
theorem own_ne {K : PySem.W.Frag} {B : Addr → Prop} {F : Fz} {H : Hp} {σ : L2.St} {E : En} (r : RelE K B F H σ E) {a : Addr} (h : NT H a) {j : Nat} {d : D} (hj : E[j]? = some (some ⟨true, d⟩)) : σ[j]? ≠ some (some (.ref a)) := fun z => by
  obtain ⟨b, zs, fs, g1, g2, g3, _⟩ := r.own j d hj
  rw [g1] at z
  cases z
  obtain ⟨ps, e⟩ := h _ g3
  cases e
theorem s_parLL {i j : Nat} {st : Stmt} {e1 e2 : Expr} {m1 m2 : En → Tree (List D)} (hij : i ≠ j) (h1 : SL X e1 m1) (h2 : SL X e2 m2) (hs : starEach [e1, e2] X.env = (false, eval e1 X.env) :: starEach [e2] X.env) (hs2 : starEach [e2] X.env = (false, eval e2 X.env) :: starEach [] X.env)
    (h : ∀ ta, PA X [e1, e2] ta → PS X st (tPar i j ta)) : SS X st (oParLL i j m1 m2) := by
  refine ⟨PS.weak (h _ (pa_cons h1.pe (pa_cons h2.pe pa_nil hs2) hs)) fun D0 σ H ⟨F0, H0, F, E, e, r, q⟩ => ?_⟩
  refine ⟨B0 H0, F, E, e.good, r, Tree.all_mono (fun ds k a xs F1 H1 x1 ha na ta za ra => ?_) (Tree.all_bind.mp q)⟩
  refine ⟨B0 H0, F1, E, x1.good, r.ext x1, Tree.all_mono (fun es k b ys F2 H2 x2 hb nb tb zb rb => ?_) (Tree.all_bind.mp k)⟩
  obtain ⟨ha2, na2, ta2⟩ := own_ext x2 ha na ta
  have b0 : ∀ {c : Addr}, NT H c → B0 H0 c := fun hc => e.back hc fun t => by
    obtain ⟨x, y, z, _⟩ := (e.good.pot _ (e.monoT _ t)).2
    obtain ⟨ps, w⟩ := hc _ z
    cases w
  have zb' : NT H b := x1.back zb fun t => by
    exact tb (x2.monoT b (x1.monoT b t))
  have r2 := (r.ext x1).ext x2
  have r3 := r2.putOwn i ha2 (ra.mono x2.le) na2 ta2 (b0 za) fun j' d hj' hd => own_ne r za hd
  have r4 := r3.putOwn j hb rb nb tb (b0 zb') fun j' d hj' hd => by
    by_cases q : i = j'
    · subst q
      intro z
      have hl : i < σ.length := by
        have := (List.getElem?_eq_some_iff.mp hd).1
        rw [r.len]
        simpa [En.putOwn] using this
      rw [List.getElem?_set_self hl] at z
      cases z
      obtain ⟨ps, w⟩ := zb _ ha
      cases w
    · rw [List.getElem?_set_ne q]
      rw [En.putOwn, List.getElem?_set_ne q] at hd
      exact own_ne r zb' hd
  exact ⟨.ref a, .ref b, rfl, (show Post X.K F0 H0 F D0 (.nx _) from k) _ F2 H2 ((e.trans x1).trans x2) (x1.le.trans x2.le) r4⟩
end
section
variable {P : Program} {w : World} {K : PySem.W.Frag} {mg : Str → Option Value} {base : Heap}
theorem calN_mk {x : Str} {st : Stmt} {fn : List D → Tree D} {k z : Nat} {ps : List Str} (a : At K mg x st) (c : ∀ f fd, Fun K x x st f fd → FnG P w K mg base k f fd ps (spN K z fn))
    (hb : ∀ (kV doc pm : Value) (an : Option Addr) (cdv ct : Value) (us : List Value), us.length = ps.length → bindArgs (PySem.W.fnOf x x (defArgs st) (defBody st) (defScope st) .none kV doc pm an cdv ct) ⟨us, []⟩ = pure (ps.zip us)) : CalN P w K mg base k z x fn := by
  obtain ⟨f, fd, F, hm⟩ := a.ex
  exact ⟨f, fd, ps, c f fd F, hm, F.kp, F.binds hb⟩
end
end R

set_option Elab.async false
set_option linter.all false
set_option maxRecDepth 100000
/-! exceptions in the air whose own context is None: what the still reading asks of them -/
namespace R
open PySem PySem.Spec PyProof.Rows L2
theorem okC {CX : CXT} {P : Program} {w : World} {K : PySem.W.Frag} {mg : Str → Option Value} {base : Heap} {x qual : Str} {st : Stmt} {f : Addr} {fd : FuncData} {N ps : List Str} {k : Nat} {sp : Sp}
    (F : Fun K x qual st f fd) (S : FnScope N ps (defScope st)) (ln : ∀ vs H Q E, sp vs H Q E → vs.length = ps.length)
    (go : ∀ (c : Value) (A : Around) (o : List Env) (s : Shared) (H : Hp) (vs : List V) (Q : VK) (E : XK), Room k (A.deeper (envOfC qual (defScope st) s.heap.objs.size f c)) → sp vs H Q E →
      ∃ t, PSs (cxOf CX P w K mg base N qual (defScope st) f c A o s H E) (defBody st) t ∧ t { nx := fun _ G => Q .non G, rt := Q } (start N vs) H) : FnOk P w K mg base CX (k + 1) f fd ps sp := by
  obtain ⟨_, _, _, _, _, _, c, _, _, e, l, h⟩ := F.ex
  subst e
  exact fn_of l h S ln fun A o s H vs Q E r q => go c A o s H vs Q E r q
theorem takes0N {X : Cx} : L2N.Takes X (fun _ _ _ _ => False) := fun _ _ h => by
  obtain ⟨_, _, _, _, _, _, _, _, _, _, _, _, _, _, _, _, n⟩ := h
  exact n.elim
theorem passN {X : Cx} : Passes (L2N.CX X.prog X.w) X E0 := fun _ _ _ _ _ _ _ h => by
  obtain ⟨_, _, _, _, _, _, _, _, _, _, _, _, n⟩ := h
  exact n.elim
/-- X() of a class of the program's own over a built-in exception, raised where nothing is handled -/
theorem pmk_own0N {X : Cx} {CA : Addr} {bmB : List Value} {B newId initId : String} {x : Str} {p pos : Pos} (F : ExcBaseFacts B newId initId bmB) (q : PySem.W.excIn X.K CA bmB newId = true) (gC : X.mg x = some (.ref CA)) (kC : PySem.W.keepIn X.K (.ref CA) = true) (r : Raises X (.ref CA)) (hg : Gl X x)
    (hdb : (x == ("__debug__" : Str)) = false := by decide) : L2N.PMk X (.Call (.Name x p) [] [] pos) (fun _ H Q => Q (.ref CA) none H) := by
  intro pins s σ H Q I h
  refine wpAny_Call_Name_kw (ld_glob I hg gC ?_ hdb)
  refine PySem.W.callWith_K0 I.kIn kC ?_
  show wpAny _ _ (call (.ref CA) []) _ _ _
  obtain ⟨bm, N, nm, qn, bs, hdct, sn, sub, ab, col, dd, k0, k1, k2, k3, k5, mN, hC, hN, hni, T⟩ := exc_obj I.kIn q
  refine wpAny_call_exc_subT F T hC hN hni (fun h' e hm => ?_) (Nat.zero_le _)
  exact L2N.mk_of I hm r h (I.hok.gone hm.new)
end R

set_option Elab.async false
set_option linter.all false
set_option maxRecDepth 100000
set_option maxHeartbeats 2000000
/-! defs that may raise exceptions of the program's own, with a value or without one -/
namespace R
open PySem PySem.Spec PyProof.Rows L2
open Tree (leaf fail)
/-- what a def that may raise tells: k: which class -/
inductive Res (α : Type) where
  | ok (a : α) | ex (k : Nat) (v : Option D)
/-- the exception's dict holds its value -/
def XV (K : PySem.W.Frag) (F : Fz) (H : Hp) : Option D → Option Addr → Prop
  | none, d => d = none
  | some v, d => ∃ (dd : Addr) (w : V), d = some dd ∧ H dd = some (.xd [("value", w)]) ∧ Rep K F w v
def PostV (K : PySem.W.Frag) (C : Nat → Value) (W : WX) (F0 : Fz) (H0 : Hp) (F : Fz) (D0 : Ends) : Res Out → Prop
  | .ok o => Post K F0 H0 F D0 o
  | .ex k v => ∀ σ' F' H' d, Ext F0 H0 F' H' → F.Le F' → XV K F' H' v d → W (C k) d σ' H'
theorem PostV.le {K : PySem.W.Frag} {C : Nat → Value} {W : WX} {F0 F F1 : Fz} {H0 : Hp} {D0 : Ends} {o : Res Out} (l : F.Le F1) (h : PostV K C W F0 H0 F D0 o) : PostV K C W F0 H0 F1 D0 o := by
  cases o with
  | ok o => exact Post.le l h
  | ex k v => exact fun σ' F' H' d e l' x => h σ' F' H' d e (l.trans l') x
def tSV (K : PySem.W.Frag) (C : Nat → Value) (W : WX) (m : En → Tree (Res Out)) : TS := fun D0 σ H => ∃ F0 H0 F E, Ext F0 H0 F H ∧ RelE K (B0 H0) F H σ E ∧ (m E).all (PostV K C W F0 H0 F D0)
structure SV (X : Cx) (W : WX) (C : Nat → Value) (st : Stmt) (m : En → Tree (Res Out)) : Prop where
  ps : PS X st (tSV X.K C W m)
structure SVs (X : Cx) (W : WX) (C : Nat → Value) (ss : List Stmt) (m : En → Tree (Res Out)) : Prop where
  ps : PSs X ss (tSV X.K C W m)
section
variable {X : Cx} {W : WX} {C : Nat → Value} {st : Stmt} {rest a b : List Stmt} {m : En → Tree Out} {n m1 m2 : En → Tree (Res Out)} {pos : Pos}
def oOk (m : En → Tree Out) : En → Tree (Res Out) := fun E => (m E).bind fun o => leaf (.ok o)
theorem sv_of (h : SS X st m) : SV X W C st (oOk m) := ⟨PS.weak h.ps fun D0 σ H ⟨F0, H0, F, E, e, r, q⟩ => ⟨F0, H0, F, E, e, r, Tree.all_mono (fun o k => k) (Tree.all_bind.mp q)⟩⟩
theorem svs_nil : SVs X W C [] (oOk oNx) := ⟨PSs.weak ss_nil.ps fun D0 σ H ⟨F0, H0, F, E, e, r, q⟩ => ⟨F0, H0, F, E, e, r, Tree.all_mono (fun o k => k) (Tree.all_bind.mp q)⟩⟩
def oSeqV (m n : En → Tree (Res Out)) : En → Tree (Res Out) := fun E => (m E).bind fun o => match o with
  | .ok (.nx E') => n E'
  | o => leaf o
theorem svs_cons (h1 : SV X W C st m1) (h2 : SVs X W C rest m2) : SVs X W C (st :: rest) (oSeqV m1 m2) := by
  refine ⟨PSs.weak (pss_cons h1.ps h2.ps) fun D0 σ H ⟨F0, H0, F, E, e, r, q⟩ => ?_⟩
  refine ⟨F0, H0, F, E, e, r, Tree.all_mono (fun o k => ?_) (Tree.all_bind.mp q)⟩
  cases o with
  | ok o =>
    cases o with
    | nx E' => exact fun σ' F' H' e' l r' => ⟨F0, H0, F', E', e', r', Tree.all_mono (fun o h => h.le l) k⟩
    | rt d => exact k
    | bk E' => exact k
    | ct E' => exact k
  | ex k' v => exact k
theorem svs_one (h1 : SV X W C st m1) : SVs X W C [st] m1 := ⟨pss_one h1.ps⟩
def oIfV (c : En → Tree Bool) (m n : En → Tree (Res Out)) : En → Tree (Res Out) := fun E => (c E).bind fun b => if b = true then m E else n E
theorem sv_if {c : Expr} {mc : En → Tree Bool} (hc : ST X c mc) (ha : SVs X W C a m1) (hb : SVs X W C b m2) : SV X W C (.If c a b pos) (oIfV mc m1 m2) := by
  refine ⟨PS.weak (ps_if hc.pt ha.ps hb.ps) fun D0 σ H ⟨F0, H0, F, E, e, r, q⟩ => ?_⟩
  refine ⟨B0 H0, F, E, e.good, r, Tree.all_mono (fun z k F' H' e' => ?_) (Tree.all_bind.mp q)⟩
  cases z with
  | true => exact ⟨F0, H0, F', E, e.trans e', r.ext e', Tree.all_mono (fun o h => h.le e'.le) k⟩
  | false => exact ⟨F0, H0, F', E, e.trans e', r.ext e', Tree.all_mono (fun o h => h.le e'.le) k⟩
/-- raise C() -/
def oRaise0 (k : Nat) : En → Tree (Res Out) := fun _ => leaf (.ex k none)
theorem sv_raise0 {e : Expr} {k : Nat} (hcalm : X.calm = true) (tk : L2N.Takes X W) (hm : L2N.PMk X e fun _ H Q => Q (C k) none H) : SV X W C (.Raise (some e) none pos) (oRaise0 k) :=
  ⟨PS.weak (L2N.ps_raise hcalm tk hm) fun D0 σ H ⟨F0, H0, F, E, e, r, q⟩ => (show PostV X.K C W F0 H0 F D0 (.ex k none) from q) σ F H none e (Fz.Le.refl F) rfl⟩
/-- raise C(e) -/
def oRaise1 (k : Nat) (me : En → Tree D) : En → Tree (Res Out) := fun E => (me E).bind fun d => leaf (.ex k (some d))
/-- what making C(v) says: the exception's dict is new -/
def tMk1 (C : Value) (te : TE) : L2.St → Hp → XK → Prop := fun σ H Q => te σ H fun v H1 => ∀ d, H1 d = none → Q C (some d) (upd H1 d (.xd [("value", v)]))
theorem sv_raise1 {e : Expr} {k : Nat} {te : TE} {me : En → Tree D} (hcalm : X.calm = true) (tk : L2N.Takes X W) (hm : L2N.PMk X e (tMk1 (C k) te)) (w : ∀ σ H Q, tE X.K me σ H Q → te σ H Q) : SV X W C (.Raise (some e) none pos) (oRaise1 k me) :=
  ⟨PS.weak (L2N.ps_raise hcalm tk hm) fun D0 σ H ⟨F0, H0, F, E, e, r, q⟩ => w _ _ _ ⟨B0 H0, F, E, e.good, r, Tree.all_mono (fun d k v F' H' e' p dd hdd =>
    (show PostV X.K C W F0 H0 F D0 (.ex _ (some d)) from k) σ F' _ (some dd) ((e.trans e').trans (Ext.new e'.good hdd)) e'.le ⟨dd, v, rfl, upd_same, p⟩) (Tree.all_bind.mp q)⟩⟩
end
/-! ### a def's promise -/
def PV (K : PySem.W.Frag) (C : Nat → Value) (F : Fz) (H : Hp) (Q : VK) (E : XK) : Res D → Prop
  | .ok d => ∀ v F' H', Ext F H F' H' → Rep K F' v d → Q v H'
  | .ex k v => ∀ F' H' d, Ext F H F' H' → XV K F' H' v d → E (C k) d H'
def spV (K : PySem.W.Frag) (C : Nat → Value) (f : List D → Tree (Res D)) : Sp := fun vs H Q E => ∃ F ds, Good F H ∧ Reps K F vs ds ∧ (f ds).all (PV K C F H Q E)
def mDefV (np n : Nat) (m : En → Tree (Res Out)) : List D → Tree (Res D) := fun ds => if ds.length = np then (m (En.start n ds)).bind fun o => match o with
  | .ex k v => leaf (.ex k v)
  | .ok (.nx _) => leaf (.ok .non)
  | .ok (.rt d) => leaf (.ok d)
  | _ => fail
  else fail
section
variable {P : Program} {w : World} {K : PySem.W.Frag} {mg : Str → Option Value} {base : Heap}
theorem def_okV {x qual : Str} {st : Stmt} {f : Addr} {fd : FuncData} {N ps : List Str} {k : Nat} {C : Nat → Value} {m : En → Tree (Res Out)} (np n : Nat) (F : Fun K x qual st f fd) (S : FnScope N ps (defScope st)) (hn : N.length = n) (hp : ps.length = np)
    (hbody : ∀ (cdv : Value) (A : Around) (outer : List Env) (s : Shared) (H : Hp) (E : XK), Room k (A.deeper (envOfC qual (defScope st) s.heap.objs.size f cdv)) →
      SVs (cxOf (L2N.CX P w) P w K mg base N qual (defScope st) f cdv A outer s H E) (fun cls d _ H => E cls d H) C (defBody st) m) : FnOk P w K mg base (L2N.CX P w) (k + 1) f fd ps (spV K C (mDefV np n m)) := by
  subst hn hp
  refine okC F S (fun vs H Q E ⟨F, ds, g, r, q⟩ => ?_) (fun cdv A outer s H vs Q E hr h => ?_)
  · unfold mDefV at q
    split at q
    · rename_i h; rw [r.length]; exact h
    · exact q.elim
  · obtain ⟨F, ds, g, r, q⟩ := h
    refine ⟨_, (hbody cdv A outer s H E hr).ps, F, H, F, En.start N.length ds, Ext.refl g, rel_start r N, ?_⟩
    unfold mDefV at q
    split at q
    · refine Tree.all_mono (fun o k => ?_) (Tree.all_bind.mp q)
      cases o with
      | ex i v => exact fun σ' F' H' d e l x => k F' H' d e x
      | ok o =>
        cases o with
        | nx E => exact fun σ' F' H' e l r => k .non F' H' e .non
        | rt d => exact fun v F' H' e l r => k v F' H' e r
        | bk E => exact False.elim k
        | ct E => exact False.elim k
    · exact q.elim
end
structure CalV (P : Program) (w : World) (K : PySem.W.Frag) (mg : Str → Option Value) (base : Heap) (k : Nat) (x : Str) (C : Nat → Value) (fn : List D → Tree (Res D)) : Prop where
  ex : ∃ (f : Addr) (fd : FuncData) (ps : List Str), FnOk P w K mg base (L2N.CX P w) k f fd ps (spV K C fn) ∧ mg x = some (.ref f) ∧ PySem.W.keepIn K (.ref f) = true ∧ Binds K fd ps []
/-! ### calls of defs that may raise, as statements -/
section
variable {X : Cx} {W : WX} {C : Nat → Value} {k j : Nat} {x : Str} {p pos ppos : Pos} {e : Expr} {es : List Expr} {fx : List D → Tree (Res D)} {ma : En → Tree (List D)}
/-- the call's reading -/
def tCV (K : PySem.W.Frag) (C : Nat → Value) (W : WX) (fx : List D → Tree (Res D)) (ma : En → Tree (List D)) : TE := tCallS (spV K C fx) (fun σ cls d H => W cls d σ H) (tA K ma)
theorem pe_callV (cx : CalV X.prog X.w X.K X.mg X.base j x C fx) (tk : L2N.Takes X W) (hr : Room k X.A) (hj : j ≤ k) (hg : Gl X x) (ha : SA X (e :: es) ma) (hdb : (x == ("__debug__" : Str)) = false := by decide)
    (he : starEach (e :: es) X.env = (false, eval e X.env) :: starEach es X.env := by rfl) (hpl : (backTo pos (starEach es X.env)).any (·.1) = false := by rfl) : PE X (.Call (.Name x p) (e :: es) [] pos) (tCV X.K C W fx ma) := by
  obtain ⟨g, fd, ps, F, hm, kp, b⟩ := cx.ex
  exact pe_callS (E := fun σ cls d H => W cls d σ H) F (hr.mono hj) hg hm kp b (fun σ => L2N.passAt tk σ) ha.pa hdb he hpl
/-- f(..) -/
def oCallV (fx : List D → Tree (Res D)) (ma : En → Tree (List D)) : En → Tree (Res Out) := fun E => (ma E).bind fun ds => (fx ds).bind fun o => match o with
  | .ok _ => leaf (.ok (.nx E))
  | .ex k v => leaf (.ex k v)
theorem sv_call {ce : Expr} (h : PE X ce (tCV X.K C W fx ma)) (hs : swapsWith ce none ppos.line X.env = pure false := by rfl) : SV X W C (.Expr ce ppos) (oCallV fx ma) := by
  refine ⟨PS.weak (ps_expr h hs) fun D0 σ H ⟨F0, H0, F, E, e, r, q⟩ => ?_⟩
  refine ⟨B0 H0, F, E, e.good, r, Tree.all_mono (fun ds k vs F1 H1 e1 p1 => ?_) (Tree.all_bind.mp q)⟩
  refine ⟨F1, ds, e1.good, p1, Tree.all_mono (fun o ko => ?_) (Tree.all_bind.mp k)⟩
  cases o with
  | ok d => exact fun v F2 H2 e2 rv => (show PostV X.K C W F0 H0 F D0 (.ok (.nx E)) from ko) σ F2 H2 ((e.trans e1).trans e2) (e1.le.trans e2.le) ((r.ext e1).ext e2)
  | ex i v => exact fun F2 H2 d e2 xv => (show PostV X.K C W F0 H0 F D0 (.ex i v) from ko) σ F2 H2 d ((e.trans e1).trans e2) (e1.le.trans e2.le) xv
/-- return f(..) -/
def oRetV (fx : List D → Tree (Res D)) (ma : En → Tree (List D)) : En → Tree (Res Out) := fun E => (ma E).bind fun ds => (fx ds).bind fun o => match o with
  | .ok d => leaf (.ok (.rt d))
  | .ex k v => leaf (.ex k v)
theorem sv_ret {ce : Expr} (h : PE X ce (tCV X.K C W fx ma)) : SV X W C (.Return (some ce) ppos) (oRetV fx ma) := by
  refine ⟨PS.weak (ps_ret h) fun D0 σ H ⟨F0, H0, F, E, e, r, q⟩ => ?_⟩
  refine ⟨B0 H0, F, E, e.good, r, Tree.all_mono (fun ds k vs F1 H1 e1 p1 => ?_) (Tree.all_bind.mp q)⟩
  refine ⟨F1, ds, e1.good, p1, Tree.all_mono (fun o ko => ?_) (Tree.all_bind.mp k)⟩
  cases o with
  | ok d => exact fun v F2 H2 e2 rv => (show PostV X.K C W F0 H0 F D0 (.ok (.rt d)) from ko) v F2 H2 ((e.trans e1).trans e2) (e1.le.trans e2.le) rv
  | ex i v => exact fun F2 H2 d e2 xv => (show PostV X.K C W F0 H0 F D0 (.ex i v) from ko) σ F2 H2 d ((e.trans e1).trans e2) (e1.le.trans e2.le) xv
/-- x = f(..) -/
def oSetV (i : Nat) (fx : List D → Tree (Res D)) (ma : En → Tree (List D)) : En → Tree (Res Out) := fun E => (ma E).bind fun ds => (fx ds).bind fun o => match o with
  | .ok d => leaf (.ok (.nx (E.put i d)))
  | .ex k v => leaf (.ex k v)
theorem sv_set {st : Stmt} {i : Nat} (h : PS X st (tAsg (tCV X.K C W fx ma) (gName i))) : SV X W C st (oSetV i fx ma) := by
  refine ⟨PS.weak h fun D0 σ H ⟨F0, H0, F, E, e, r, q⟩ => ?_⟩
  refine ⟨B0 H0, F, E, e.good, r, Tree.all_mono (fun ds k vs F1 H1 e1 p1 => ?_) (Tree.all_bind.mp q)⟩
  refine ⟨F1, ds, e1.good, p1, Tree.all_mono (fun o ko => ?_) (Tree.all_bind.mp k)⟩
  cases o with
  | ok d => exact fun v F2 H2 e2 rv => (show PostV X.K C W F0 H0 F D0 (.ok (.nx (E.put i d))) from ko) _ F2 H2 ((e.trans e1).trans e2) (e1.le.trans e2.le) (((r.ext e1).ext e2).put i rv)
  | ex i v => exact fun F2 H2 d e2 xv => (show PostV X.K C W F0 H0 F D0 (.ex i v) from ko) σ F2 H2 d ((e.trans e1).trans e2) (e1.le.trans e2.le) xv
end
/-- a def that does not raise there is a def like others -/
def noV (f : List D → Tree (Res D)) : List D → Tree D := fun ds => (f ds).bind fun o => match o with
  | .ok d => leaf d
  | .ex _ _ => fail
theorem FnG.ofV {P : Program} {w : World} {K : PySem.W.Frag} {mg : Str → Option Value} {base : Heap} {k : Nat} {f : Addr} {fd : FuncData} {ps : List Str} {C : Nat → Value} {fx : List D → Tree (Res D)} (F : FnOk P w K mg base (L2N.CX P w) k f fd ps (spV K C fx)) : FnG P w K mg base k f fd ps (spF K (noV fx)) := by
  have cv : ∀ vs H Q E, spF K (noV fx) vs H Q E → spV K C fx vs H Q E0 := fun vs H Q E ⟨F, ds, g, r, q⟩ => ⟨F, ds, g, r, Tree.all_mono (fun o k => by
    cases o with
    | ok d => exact k
    | ex _ _ => exact False.elim k) (Tree.all_bind.mp q)⟩
  refine ⟨fun vs H Q E h => F.len _ _ _ _ (cv vs H Q E h), fun A over s H args us vs Q E _ hr e0 hb hv h => ?_⟩
  refine codeAny_mono (F.run A over s H args us vs Q E0 hr e0 hb hv (cv vs H Q E h)) fun r s' hq => ?_
  cases r with
  | error e =>
    obtain ⟨_, _, _, _, _, _, _, _, _, _, _, _, z⟩ := hq
    exact z.elim
  | ok fl => cases fl <;> exact hq
end R

set_option Elab.async false
set_option linter.all false
set_option maxRecDepth 100000
set_option maxHeartbeats 2000000
/-! raise C(e): C a class of the program's own whose __init__(self, value) says self.value = value -/
namespace R
open PySem PySem.Spec PyProof.Rows L2
open Tree (leaf fail)
/-- __init__(self, value): self.value = value -/
def spI (K : PySem.W.Frag) : Sp := fun vs H Q _ => ∃ (a C : Addr) (v : V), vs = [.ref a, v] ∧ OexC K C ∧ PySem.W.findIn K (.ref C) "value" = some none ∧ H a = some (exo a C none) ∧
  ∀ dx, H dx = none → dx ≠ a → Q .non (upd (upd H dx (exd dx [("value", v)])) a (exo a C (some dx)))
section
variable {P : Program} {w : World} {K : PySem.W.Frag} {mg : Str → Option Value} {base : Heap}
theorem init_ok {qual : Str} {st : Stmt} {f : Addr} {fd : FuncData} {p1 p2 p3 p4 : Pos} (F : Fun K "__init__" qual st f fd) (S : FnScope ["self", "value"] ["self", "value"] (defScope st))
    (hb : defBody st = [.Assign [.Attribute (.Name "self" p1) "value" p2] (.Name "value" p3) p4])
    (vs : ∀ (cdv : Value) (A : Around) (outer : List Env) (s : Shared) (H : Hp) (E : XK) (p : Pos), PE (cxOf CX0 P w K mg base ["self", "value"] qual (defScope st) f cdv A outer s H E).nox (.Name "self" p) (tVar 0) ∧ PE (cxOf CX0 P w K mg base ["self", "value"] qual (defScope st) f cdv A outer s H E).nox (.Name "value" p) (tVar 1)) :
    FnOk P w K mg base CX0 1 f fd ["self", "value"] (spI K) := by
  refine F.ok S (fun vs H Q E ⟨a, C, v, e, _⟩ => by rw [e]; rfl) (fun cdv A outer s H vs' Q E hr h => ?_)
  obtain ⟨a, C, v, rfl, T, hno, ea, q⟩ := h
  rw [hb]
  refine ⟨_, pss_one (ps_ost (vs cdv A outer s H E _).1 (vs cdv A outer s H E _).2), ?_⟩
  refine ⟨v, rfl, .ref a, rfl, a, C, rfl, T, hno, .inl ⟨ea, fun dx n ne => q dx n ne⟩⟩
end
/-- what making C(v) says -/
def tMkA (C : Value) (ta : TA) : L2.St → Hp → XK → Prop := fun σ H Q => ta σ H fun vs H1 => ∃ v, vs = [v] ∧ ∀ d, H1 d = none → Q C (some d) (upd H1 d (.xd [("value", v)]))
section
variable {X : Cx} {W : WX} {C : Nat → Value} {pos : Pos}
theorem mk_upd {H1 : Hp} {a d : Addr} {o1 o2 o3 o4 : HO} (n : H1 a = none) (ne : d ≠ a) : upd (del (upd (upd (upd H1 a o1) d o2) a o3) a) d o4 = upd H1 d o4 := by
  funext b
  by_cases hb : b = d
  · subst hb; rw [upd_same, upd_same]
  · rw [upd_ne hb, upd_ne hb]
    by_cases ha : b = a
    · subst ha; rw [del_same, n]
    · rw [del_ne ha, upd_ne ha, upd_ne hb, upd_ne ha]
theorem pmk_val {x : Str} {CA fI : Addr} {fd : FuncData} {e : Expr} {ta : TA} {p : Pos} (T : OexC X.K CA) (hno : PySem.W.findIn X.K (.ref CA) "value" = some none) (iC : PySem.W.findIn X.K (.ref CA) "__init__" = some (some (.ref fI))) (tI : PySem.W.typeIn X.K (.ref fI) = some (.type "function"))
    (F1 : FnOk X.prog X.w X.K X.mg X.base CX0 1 fI fd ["self", "value"] (spI X.K)) (hr : Room 2 X.A) (hb : Binds X.K fd ["self", "value"] []) (hg : Gl X x) (hm : X.mg x = some (.ref CA)) (ha : PA X (e :: []) ta)
    (hdb : (x == ("__debug__" : Str)) = false := by decide) (he : starEach (e :: []) X.env = (false, eval e X.env) :: starEach [] X.env := by rfl) (hpl : (backTo pos (starEach [] X.env)).any (·.1) = false := by rfl) :
    L2N.PMk X (.Call (.Name x p) (e :: []) [] pos) (fun σ H Q => ∃ (mono : ∀ (R R' : List V → Hp → Prop), (∀ vs H', R vs H' → R' vs H') → ta σ H R → ta σ H R'), tMkA (.ref CA) ta σ H Q) := by
  intro pins s σ H Q I ⟨mono, h⟩
  obtain ⟨nm, qn, N, bs, bm, sn, sub, ab, col, dd, k0, k1, k2, k3, k5, hC, hbm⟩ := T.cls
  refine wpAny_Call_Name_kw (ld_glob I hg hm ?_ hdb)
  refine PySem.W.callWith_K (h₀ := X.base) I.ok.mod.kin T.kC (thn (ha.run pos pins s σ H _ I h) fun us s1 ⟨vs, H1, I1, r1, v, ev, q1⟩ => ⟨I1.kIn, ?_⟩) he hpl
  subst ev
  obtain ⟨u, rfl, rv⟩ : ∃ u, us = [u] ∧ RelV v u := by
    cases r1 with
    | cons a b => cases b; exact ⟨_, rfl, a⟩
  obtain ⟨hp, g, dr, tk, os⟩ := s1
  have far : hp.objs.size ≤ hp.objs.size + 1 := Nat.le_succ _
  have hn : H1 (hp.objs.size + 1) = none := I1.hok.fresh far
  have kk : ∀ b o, hp.get? b = some o → ((hp.push (PySem.W.kdv_tup [u])).push (PySem.HandSPX.excO CA hp.objs.size)).get? b = some o := fun b o z => Heap.get?_push_of_some _ (Heap.get?_push_of_some _ z)
  have hg1 : ((hp.push (PySem.W.kdv_tup [u])).push (PySem.HandSPX.excO CA hp.objs.size)).get? (hp.objs.size + 1) = some (PySem.HandSPX.excO CA hp.objs.size) := by heap_get
  have I2 : Inv X pins σ (upd H1 (hp.objs.size + 1) (exo (hp.objs.size + 1) CA none)) ⟨(hp.push (PySem.W.kdv_tup [u])).push (PySem.HandSPX.excO CA hp.objs.size), g, dr, tk, os⟩ :=
    I1.laid (t' := tk) (a := hp.objs.size + 1) (o := exo (hp.objs.size + 1) CA none) kk far (exo_ok hg1)
  have r2 : Vals [V.ref (hp.objs.size + 1), v] [Value.ref (hp.objs.size + 1), u] := .cons rfl (.cons rv .nil)
  have hq : spI X.K [V.ref (hp.objs.size + 1), v] (upd H1 (hp.objs.size + 1) (exo (hp.objs.size + 1) CA none)) (fun z H2 => z = .non ∧ ∃ d fs, H2 (hp.objs.size + 1) = some (exo (hp.objs.size + 1) CA (some d)) ∧ H2 d = some (exd d fs) ∧ H1 d = none ∧ Q (.ref CA) (some d) (upd (del H2 (hp.objs.size + 1)) d (.xd fs))) (fun _ _ _ => False) :=
    ⟨hp.objs.size + 1, CA, v, rfl, T, hno, upd_same, fun dx n ne => by
      rw [upd_ne ne] at n
      refine ⟨rfl, dx, [("value", v)], upd_same, by rw [upd_ne ne]; exact upd_same, n, ?_⟩
      rw [mk_upd hn ne]
      exact q1 dx n⟩
  refine wpAny_call (PySem.HandSPX.call_own F.excBase_ValueError (fun Y => PySem.HandSPX.refsVE_contains Y bm hbm) (I1.kIn _ _ hC) (PySem.W.looks_findIn I1.kIn iC) (fun self => PySem.W.bind_fn I1.kIn self tI) (by show 1 ≤ sizeLine; rw [sizeLine_eq]; omega)
    (codeAny_mono (F1.run _ X.stack _ _ ⟨[Value.ref (hp.objs.size + 1), u], []⟩ [Value.ref (hp.objs.size + 1), u] _ _ (fun _ _ _ => False) (hr.make CA [u] []) (I2.env0.make CA [u] []) (hb _ [Value.ref (hp.objs.size + 1), u] I2.kIn rfl) r2 hq) fun r s' hq' => ?_))
  cases r with
  | error er =>
    obtain ⟨_, _, _, _, _, _, _, _, _, _, _, _, z⟩ := hq'
  | ok fl =>
    cases fl with
    | ret u2 =>
      obtain ⟨z, H2, os2, bare2, un2, hok2, rz, ez, d, fs, ea, ed, hd1, q2⟩ := hq'
      subst ez
      obtain ⟨h2, g2, d2, t2, os'⟩ := s'
      obtain ⟨t0, G, J, kG, ge, hoe, na⟩ := mk_end0 (d2 := d2) (t2 := t2) I1 far kk un2 hok2 os2 bare2 ea ed hd1
      exact ⟨rz, _, _, _, ⟨G, g2, d2, t2, os'⟩, _, .ref CA, some d, rfl, J, kG, ge, hoe, ⟨rfl, rfl, fun ws y => by cases y; rfl⟩, rfl, rfl, na, rfl, bare2, raises_own T.exC T.tyC, q2⟩
    | next => exact False.elim hq'
    | brk => exact False.elim hq'
    | cont => exact False.elim hq'
/-- raise C(e) -/
def oRaiseA (k : Nat) (ma : En → Tree (List D)) : En → Tree (Res Out) := fun E => (ma E).bind fun ds => match ds with
  | [d] => leaf (.ex k (some d))
  | _ => fail
theorem sv_raiseA {x : Str} {k : Nat} {CA fI : Addr} {fd : FuncData} {e : Expr} {ma : En → Tree (List D)} {p p2 : Pos} (hcalm : X.calm = true) (tk : L2N.Takes X W) (hk : C k = .ref CA) (T : OexC X.K CA) (hno : PySem.W.findIn X.K (.ref CA) "value" = some none) (iC : PySem.W.findIn X.K (.ref CA) "__init__" = some (some (.ref fI))) (tI : PySem.W.typeIn X.K (.ref fI) = some (.type "function"))
    (F1 : FnOk X.prog X.w X.K X.mg X.base CX0 1 fI fd ["self", "value"] (spI X.K)) (hr : Room 2 X.A) (hb : Binds X.K fd ["self", "value"] []) (hg : Gl X x) (hm : X.mg x = some (.ref CA)) (ha : SA X (e :: []) ma)
    (hdb : (x == ("__debug__" : Str)) = false := by decide) (he : starEach (e :: []) X.env = (false, eval e X.env) :: starEach [] X.env := by rfl) (hpl : (backTo p2 (starEach [] X.env)).any (·.1) = false := by rfl) :
    SV X W C (.Raise (some (.Call (.Name x p) (e :: []) [] p2)) none pos) (oRaiseA k ma) := by
  refine ⟨PS.weak (L2N.ps_raise hcalm tk (pmk_val (pos := p2) T hno iC tI F1 hr hb hg hm ha.pa hdb he hpl)) fun D0 σ H ⟨F0, H0, F, E, e, r, q⟩ => ?_⟩
  refine ⟨fun R R' hR ⟨B, F, E, g, rl, q⟩ => ⟨B, F, E, g, rl, Tree.all_mono (fun ds k vs F' H' e' p => hR _ _ (k vs F' H' e' p)) q⟩, B0 H0, F, E, e.good, r, Tree.all_mono (fun ds k vs F' H' e' p => ?_) (Tree.all_bind.mp q)⟩
  cases p with
  | nil => exact False.elim k
  | cons p1 p =>
    cases p with
    | nil =>
      refine ⟨_, rfl, fun dd hdd => ?_⟩
      rw [← hk]
      exact (show PostV X.K C W F0 H0 F D0 (.ex _ (some _)) from k) σ F' _ (some dd) ((e.trans e').trans (Ext.new e'.good hdd)) e'.le ⟨dd, _, rfl, upd_same, p1⟩
    | cons _ _ => exact False.elim k
end
end R

set_option Elab.async false
set_option linter.all false
set_option maxRecDepth 100000
set_option maxHeartbeats 2000000
/-! things known to their objects, tracked for a while, let go again -/
namespace R
open PySem PySem.Spec PyProof.Rows L2
abbrev TS1 := Addr → Option Obj
def Trk (t : TS1) (H : Hp) : Hp := fun b => match t b with
  | some o => some (uT b o)
  | none => H b
def Unt (t : TS1) (H : Hp) : Hp := fun b => match t b with
  | some _ => none
  | none => H b
structure TOk (t : TS1) (h : Heap) (H : Hp) : Prop where
  get : ∀ b o, t b = some o → h.get? b = some o
  un : ∀ b o, t b = some o → H b = none
/-- the things of t are tracked -/
def TIn (t : TS1) (H : Hp) : Prop := ∀ b o, t b = some o → H b = some (uT b o)
theorem trk_some {t : TS1} {H : Hp} {b : Addr} {o : Obj} (h : t b = some o) : Trk t H b = some (uT b o) := by unfold Trk; rw [h]
theorem trk_none {t : TS1} {H : Hp} {b : Addr} (h : t b = none) : Trk t H b = H b := by unfold Trk; rw [h]
theorem unt_some {t : TS1} {H : Hp} {b : Addr} {o : Obj} (h : t b = some o) : Unt t H b = none := by unfold Unt; rw [h]
theorem unt_none {t : TS1} {H : Hp} {b : Addr} (h : t b = none) : Unt t H b = H b := by unfold Unt; rw [h]
theorem trk_in (t : TS1) (H : Hp) : TIn t (Trk t H) := fun b o h => trk_some h
theorem TIn.nn {t : TS1} {H : Hp} (x : TIn t H) {b : Addr} {u : HO} (h : H b = some u) (n : ∀ o, u ≠ uT b o) : t b = none := by
  cases q : t b with
  | none => rfl
  | some o => rw [x b o q] at h; exact absurd (Option.some.inj h).symm (n o)
theorem TIn.fr0 {t : TS1} {H : Hp} (x : TIn t H) {b : Addr} (h : H b = none) : t b = none := by
  cases q : t b with
  | none => rfl
  | some o => rw [x b o q] at h; cases h
theorem TOk.nn {t : TS1} {h : Heap} {H : Hp} (x : TOk t h H) {b : Addr} {u : HO} (e : H b = some u) : t b = none := by
  cases q : t b with
  | none => rfl
  | some o => rw [x.un b o q] at e; cases e
section
variable {P : Program} {w : World} {H H' : Hp} {h h' : Heap} {t : TS1}
theorem uT_ok {b : Addr} {o : Obj} (e : h.get? b = some o) : ObjOk P w H h b (uT b o) := ⟨e, e, ⟨o, e⟩, fun h1 h2 x k => k o x⟩
theorem trk_hok (ok : HOk P w H h) (x : TOk t h H) : HOk P w (Trk t H) h := fun b u e => by
  cases q : t b with
  | some o =>
    rw [trk_some q] at e
    cases e
    exact uT_ok (x.get b o q)
  | none =>
    rw [trk_none q] at e
    exact (ok b u e).stay (fun c v _ r => r) (fun c r => by rw [trk_none (x.nn r)]; exact r) fun c xs r => by rw [trk_none (x.nn r)]; exact r
theorem unt_hok (ok : HOk P w H h) (x : TIn t H) : HOk P w (Unt t H) h := fun b u e => by
  cases q : t b with
  | some o => rw [unt_some q] at e; cases e
  | none =>
    rw [unt_none q] at e
    exact (ok b u e).stay (fun c v _ r => r) (fun c r => by rw [unt_none (x.nn r fun o z => by cases z)]; exact r) fun c xs r => by rw [unt_none (x.nn r fun o z => by cases z)]; exact r
theorem TIn.get (ok : HOk P w H h) (x : TIn t H) {b : Addr} {o : Obj} (e : t b = some o) : h.get? b = some o := (ok b _ (x b o e)).1
theorem TIn.unt (x : TIn t H) (ok : HOk P w H h) : TOk t h (Unt t H) := ⟨fun b o e => x.get ok e, fun b o e => unt_some e⟩
/-- over a call: the things of t are tracked for the callee -/
theorem un_track {fs : List Addr} (x : TOk t h H) (nf : ∀ b ∈ fs, t b = none) (ok' : HOk P w H' h') (u : Un fs [] (Trk t H) H' h h') : Un fs [] H (Unt t H') h h' ∧ TIn t H' := by
  have inn : TIn t H' := fun b o e => u.frzs b o _ (trk_some e)
  refine ⟨⟨fun b o e n hf hx => ?_, fun b o e n hf hx => u.slot b o e (by rw [trk_none (nf b hf)]; exact n) hf hx, fun b o e n hx => ?_, u.there, fun b xs e => ?_, fun b o v e => ?_, fun b ps e => ?_⟩, inn⟩
  · cases q : t b with
    | some o' =>
      have e1 := x.get b o' q
      rw [e] at e1
      cases e1
      exact inn.get ok' q
    | none => exact u.keep b o e (by rw [trk_none q]; exact n) hf hx
  · cases q : t b with
    | some o' => exact unt_some q
    | none => rw [unt_none q]; exact u.free b o e (by rw [trk_none q]; exact n) hx
  · have q := x.nn e
    rw [unt_none q]; exact u.tups b xs (by rw [trk_none q]; exact e)
  · have q := x.nn e
    rw [unt_none q]; exact u.frzs b o v (by rw [trk_none q]; exact e)
  · have q := x.nn e
    rw [unt_none q]; exact u.tbls b ps (by rw [trk_none q]; exact e)
/-- over a call: the things of t are let go for the callee, and come back -/
theorem un_let {fs : List Addr} (x : TIn t H) (ok : HOk P w H h) (nf : ∀ b ∈ fs, H b = none) (u : Un fs [] (Unt t H) H' h h') : Un fs [] H (Trk t H') h h' ∧ TOk t h' H' := by
  have tok : TOk t h' H' := ⟨fun b o e => u.keep b o (x.get ok e) (unt_some e) (fun z => by have := nf b z; rw [x b o e] at this; cases this) (fun z => nomatch z), fun b o e => u.free b o (x.get ok e) (unt_some e) (fun z => nomatch z)⟩
  refine ⟨⟨fun b o e n hf hx => u.keep b o e (by rw [unt_none (x.fr0 n)]; exact n) hf hx, fun b o e n hf hx => u.slot b o e (by rw [unt_none (x.fr0 n)]; exact n) hf hx, fun b o e n hx => ?_, u.there, fun b xs e => ?_, fun b o v e => ?_, fun b ps e => ?_⟩, tok⟩
  · have q := x.fr0 n
    rw [trk_none q]; exact u.free b o e (by rw [unt_none q]; exact n) hx
  · have q := x.nn e fun o z => by cases z
    rw [trk_none q]; exact u.tups b xs (by rw [unt_none q]; exact e)
  · cases q : t b with
    | some o' =>
      rw [trk_some q]
      rw [x b o' q] at e
      exact e
    | none => rw [trk_none q]; exact u.frzs b o v (by rw [unt_none q]; exact e)
  · have q := x.nn e fun o z => by cases z
    rw [trk_none q]; exact u.tbls b ps (by rw [unt_none q]; exact e)
end
section
variable {P : Program} {w : World} {K : PySem.W.Frag} {mg : Str → Option Value} {base : Heap} {A : Around} {outer : List Env} {s s' : Shared} {H : Hp} {t : TS1} {Q : VK} {u : Value}
theorem env0_track (e : Env0 P w K mg base A outer s H) (x : TOk t s.heap H) (nf : ∀ b ∈ frs outer, t b = none) (nb : ∀ b o, base.get? b = some o → t b = none) : Env0 P w K mg base A outer s (Trk t H) :=
  ⟨e.frames, e.mod, fun b o h => ⟨(e.bs b o h).1, by rw [trk_none (nb b o h)]; exact (e.bs b o h).2⟩, e.bsz, e.funs, fun b hb => by rw [trk_none (nf b hb)]; exact e.frf b hb, trk_hok e.hok x, e.bare⟩
theorem env0_let (e : Env0 P w K mg base A outer s H) (x : TIn t H) : Env0 P w K mg base A outer s (Unt t H) :=
  ⟨e.frames, e.mod, fun b o h => ⟨(e.bs b o h).1, by have n := (e.bs b o h).2; rw [unt_none (x.fr0 n)]; exact n⟩, e.bsz, e.funs, fun b hb => by have n := e.frf b hb; rw [unt_none (x.fr0 n)]; exact n, unt_hok e.hok x, e.bare⟩
/-- a call with the things of t tracked, seen from outside -/
theorem ce_track (x : TOk t s.heap H) (nf : ∀ b ∈ frs outer, t b = none) (c : CE outer P w (Trk t H) s Q u s') : CE outer P w H s (fun v H' => ∃ H2, H' = Unt t H2 ∧ TIn t H2 ∧ Q v H2) u s' := by
  obtain ⟨v, H', os, bare, un, hok, r, q⟩ := c
  obtain ⟨un2, inn⟩ := un_track x nf hok un
  exact ⟨v, _, os, bare, un2, unt_hok hok inn, r, H', rfl, inn, q⟩
/-- a call with the things of t let go, seen from outside -/
theorem ce_let (x : TIn t H) (ok : HOk P w H s.heap) (nf : ∀ b ∈ frs outer, H b = none) (c : CE outer P w (Unt t H) s Q u s') : CE outer P w H s (fun v H' => ∃ H2, H' = Trk t H2 ∧ (∀ b o, t b = some o → H2 b = none) ∧ Q v H2) u s' := by
  obtain ⟨v, H', os, bare, un, hok, r, q⟩ := c
  obtain ⟨un2, tok⟩ := un_let x ok nf un
  exact ⟨v, _, os, bare, un2, trk_hok hok tok, r, H', rfl, tok.un, q⟩
/-- the same where an exception comes out -/
theorem cx_let {E : XK} (x : TIn t H) (ok : HOk P w H s.heap) (nf : ∀ b ∈ frs outer, H b = none) (c : L2N.CX P w outer (Unt t H) s E u s') : L2N.CX P w outer H s (fun cls d H' => ∃ H2, H' = Trk t H2 ∧ (∀ b o, t b = some o → H2 b = none) ∧ E cls d H2) u s' := by
  obtain ⟨a, B, H', cls, d, rfl, fl, hok, ub, na, os, bare, q⟩ := c
  have tok : TOk t B H' := ⟨fun b o e => ub.keep b o (x.get ok e) (unt_some e) (fun z => by have := nf b z; rw [x b o e] at this; cases this), fun b o e => ub.free b o (x.get ok e) (unt_some e)⟩
  have ta : t a = none := by
    cases q : t a with
    | none => rfl
    | some o => exact absurd (tok.get a o q) (by rw [fl.2.1]; intro z; cases z)
  refine ⟨a, B, Trk t H', cls, d, rfl, fl, trk_hok hok tok, ⟨fun b o e n hf => ub.keep b o e (by rw [unt_none (x.fr0 n)]; exact n) hf, ub.slot, fun b o e n => ?_, ub.there, fun b xs e => ?_, fun b o v e => ?_, fun b ps e => ?_⟩, by rw [trk_none ta]; exact na, os, bare, H', rfl, tok.un, q⟩
  · have q := x.fr0 n
    rw [trk_none q]; exact ub.free b o e (by rw [unt_none q]; exact n)
  · have q := x.nn e fun o z => by cases z
    rw [trk_none q]; exact ub.tups b xs (by rw [unt_none q]; exact e)
  · cases q : t b with
    | some o' =>
      rw [trk_some q]
      rw [x b o' q] at e
      exact e
    | none => rw [trk_none q]; exact ub.frzs b o v (by rw [unt_none q]; exact e)
  · have q := x.nn e fun o z => by cases z
    rw [trk_none q]; exact ub.tbls b ps (by rw [unt_none q]; exact e)
end
end R

set_option Elab.async false
set_option linter.all false
set_option maxRecDepth 100000
set_option maxHeartbeats 2000000
/-! a lambda that is kept: its call -/
namespace R
open PySem PySem.Spec PyProof.Rows L2
open Tree (leaf fail)
/-- the words of the lambda as the kit's nested functions are told -/
abbrev nfOf (x : CloT) (cl : List (Str × Addr)) (c : Addr) : NdefX.NF := ⟨"<lambda>", x.q, x.params, [], x.scope, cl, c⟩
section
variable {CX : CXT} {P : Program} {w : World} {K : PySem.W.Frag} {mg : Str → Option Value} {base : Heap} {A : Around} {outer : List Env} {s : Shared} {H : Hp} {k : Nat} {f c : Addr} {x : CloT} {cl : List (Str × Addr)} {pm ctv : Value} {ws : List (Option V)} {Q : VK} {E : XK} {te : TE}
theorem lam_run (hr : Room (k + 1) A) (e0 : Env0 P w K mg base A outer s H) (ho : s.heap.get? f = some (PySem.W.kla_obj "<lambda>" x.q x.params x.body x.scope cl pm c ctv)) (hc : H c = some (LamX.CodeO c x.q)) (S : NdefX.NScope x.ns [] x.ns x.scope)
    (C : NdefX.CellsAt cl x.ns ws s.heap H) (hbind : bindArgs (PySem.W.kla_fn "<lambda>" x.q x.params x.body x.scope cl pm (.ref c) ctv) ⟨[], []⟩ = pure [])
    (hbody : Room k (A.deeper (NdefX.envF (nfOf x cl c) f s.heap.objs.size)) → PE (NdefX.ncx CX P w K mg base x.ns (nfOf x cl c) f A outer s H E) x.body te) (hq : te (NdefX.startF x.ns [] ws) H Q) :
    codeAny (model P w) A (.call (.ref f) ⟨[], []⟩) (CR CX outer P w H s Q E) s := by
  have lim : s.heap.NoLimit := e0.mod.nolimit.keeps fun b o e => (e0.bs b o e).1
  refine PySem.W.kla_callFunE hr.depth ho rfl S.co S.gen rfl (NdefX.codeO_at e0.hok hc) ?_
  rw [hbind]
  refine wpAny_pure (wpAny_newFunctionEnv S.nocell (fun y hy => absurd hy (by simp)) (fun h₁ hns hsb => ⟨lim.fresh _ hsb, ?_⟩) S.kind)
  show codeAny _ _ (.expr x.body (NdefX.envF (nfOf x cl c) f s.heap.objs.size)) _ _
  have kp : ∀ b o, s.heap.get? b = some o → h₁.get? b = some o := fun b o e => hsb.extBut b o (Nat.ne_of_lt (Heap.lt_size e)) (Heap.get?_push_of_some _ e)
  have J : Inv (NdefX.ncx CX P w K mg base x.ns (nfOf x cl c) f A outer s H E) [] (NdefX.startF x.ns [] ws) H { s with heap := h₁, toks := s.toks + ([] : List (Str × Value)).length } :=
    NdefX.inv_startN (F := nfOf x cl c) (vs := []) (us := []) S hr.hd e0 rfl .nil C hns kp
  refine PySem.W.kla_codeExpr (wpAny_mono ((hbody (hr.deeper _)).run [] _ _ H Q J hq) (fun v s' hq => ?_) fun e s' hq => hq)
  obtain ⟨w', H', J', rv, q⟩ := hq
  exact ⟨w', H', J'.os, J'.bare, J'.base, J'.hok, rv, q⟩
end
/-! ### the cells are let go -/
/-- no closure within -/
def noClo : Nat → D → Bool
  | 0, _ => false
  | n + 1, .tup xs => xs.all (noClo n)
  | n + 1, .lst xs => xs.all (noClo n)
  | _ + 1, .clo _ _ => false
  | _ + 1, .inst _ _ => false
  | _ + 1, _ => true
/-- the still things but those of t -/
def cutF (t : TS1) (F : Fz) : Fz := ⟨Unt t F.P, F.T⟩
/-- the still things with those of t again -/
def addF (t : TS1) (F : Fz) : Fz := ⟨Trk t F.P, F.T⟩
section
variable {K : PySem.W.Frag} {F F' : Fz} {H H' : Hp} {t : TS1}
theorem cutRs {n : Nat} (ih : ∀ (d : D) (v : V), noClo n d = true → Rep K F v d → Rep K (cutF t F) v d) : ∀ (ds : List D) (vs : List V), ds.all (noClo n) = true → Reps K F vs ds → Reps K (cutF t F) vs ds
  | _, _, _, .nil => .nil
  | d :: ds, _, h, .cons r rs => by
    rw [List.all_cons, Bool.and_eq_true] at h
    exact .cons (ih d _ h.1 r) (cutRs ih ds _ h.2 rs)
theorem cutR (x : TIn t F.P) : ∀ (n : Nat) (d : D) (v : V), noClo n d = true → Rep K F v d → Rep K (cutF t F) v d
  | 0, _, _, h, _ => by cases h
  | n + 1, d, v, h, r => by
    have keep : ∀ {b : Addr} {u : HO}, F.P b = some u → (∀ o, u ≠ uT b o) → (cutF t F).P b = some u := fun {b u} e ne => by
      show Unt t F.P b = _
      rw [unt_none (x.nn e ne)]; exact e
    cases r with
    | non => exact .non
    | bl b => exact .bl b
    | int i => exact .int i
    | str y => exact .str y
    | tup hs rs =>
      refine .tup ?_ (cutRs (cutR x n) _ _ h rs)
      rcases hs with hs | hs
      · exact .inl (keep hs fun o z => by cases z)
      · exact .inr hs
    | lst hs rs => exact .lst (keep hs fun o z => by cases z) (cutRs (cutR x n) _ _ h rs)
    | pot hp => exact .pot hp
    | ty _ => exact .ty _
    | scr hs =>
      refine .scr ?_
      rcases hs with (hs | ⟨o, hs⟩) | hs
      · exact .inl (.inl (keep hs fun o z => by cases z))
      · exact .inl (.inr ⟨o, keep hs fun o z => by cases z⟩)
      · exact .inr hs
    | dct hs => exact .dct (keep hs fun o z => by cases z)
    | fn hs => exact .fn hs
    | clo _ _ _ _ _ _ _ => cases h
    | inst _ _ _ => cases h
    | inst0 _ => cases h
theorem TIn.le (x : TIn t F.P) (s : Same F.P H) : TIn t H := fun b o e => s b _ (x b o e)
theorem cut_good (g : Good F H) (x : TIn t F.P) : Good (cutF t F) (Unt t H) := by
  have xh := x.le g.sub
  have keep : ∀ {b : Addr} {u : HO}, H b = some u → (∀ o, u ≠ uT b o) → Unt t H b = some u := fun {b u} e ne => by rw [unt_none (xh.nn e ne)]; exact e
  refine ⟨fun a o h => ?_, fun a ta => ?_, fun a ps h => ?_, fun p hp => ?_, fun f o h q ps b sc cl pm c ctv e => ?_⟩
  · have h : Unt t F.P a = some o := h
    cases q : t a with
    | some o' => rw [unt_some q] at h; cases h
    | none => rw [unt_none q] at h ⊢; exact g.sub a o h
  · obtain ⟨n, p, q, e, r⟩ := g.pot a ta
    have ta' := xh.nn e fun o z => by cases z
    exact ⟨by show Unt t F.P a = none; rw [unt_none ta']; exact n, p, q, keep e (fun o z => by cases z), r⟩
  · have h : Unt t F.P a = some (.tbl ps) := h
    cases q : t a with
    | some o' => rw [unt_some q] at h; cases h
    | none => rw [unt_none q] at h; exact g.nt a ps h
  · obtain ⟨ps, a1, a2, a3⟩ := g.tab p hp
    refine ⟨ps, keep a1 (fun o z => by cases z), a2, fun pos cv hcv => ?_⟩
    obtain ⟨c0, e1, e2⟩ := a3 pos cv hcv
    exact ⟨c0, e1, keep e2 fun o z => by unfold LamX.CodeO at z; cases z⟩
  · have h : Unt t F.P f = some (uT f o) := h
    cases q2 : t f with
    | some o' => rw [unt_some q2] at h; cases h
    | none =>
      rw [unt_none q2] at h
      exact keep (g.cod f o h q ps b sc cl pm c ctv e) fun o z => by unfold LamX.CodeO at z; cases z
/-- back from the cut -/
theorem add_ext (g : Good F H) (x : TIn t F.P) (e : Ext (cutF t F) (Unt t H) F' H') (un : ∀ b o, t b = some o → H' b = none) (cd : ∀ b o, t b = some o → CodOk (Trk t H') o) : Ext F H (addF t F') (Trk t H') := by
  have xh := x.le g.sub
  have fn : ∀ b o, t b = some o → F'.P b = none := fun b o q => by
    cases z : F'.P b with
    | none => rfl
    | some u => have := e.good.sub b u z; rw [un b o q] at this; cases this
  have keepH : ∀ {b : Addr} {u : HO}, H' b = some u → Trk t H' b = some u := fun {b u} z => by
    cases q : t b with
    | none => rw [trk_none q]; exact z
    | some o => rw [un b o q] at z; cases z
  refine ⟨⟨fun a o h => ?_, fun a ta => ?_, fun a ps h => ?_, fun p hp => ?_, fun f o h q ps b sc cl pm c ctv z => ?_⟩, fun a o h => ?_, fun a ta => e.monoT a ta, fun a o h nt ntb => ?_, fun a h => ?_⟩
  · have h : Trk t F'.P a = some o := h
    cases q : t a with
    | some o' => rw [trk_some q] at h ⊢; exact h
    | none => rw [trk_none q] at h ⊢; exact e.good.sub a o h
  · obtain ⟨n, p, q, z, r⟩ := e.good.pot a ta
    have ta' : t a = none := by
      cases q2 : t a with
      | none => rfl
      | some o => rw [un a o q2] at z; cases z
    exact ⟨by show Trk t F'.P a = none; rw [trk_none ta']; exact n, p, q, keepH z, r⟩
  · have h : Trk t F'.P a = some (.tbl ps) := h
    cases q : t a with
    | some o' => rw [trk_some q] at h; cases h
    | none => rw [trk_none q] at h; exact e.good.nt a ps h
  · obtain ⟨ps, a1, a2, a3⟩ := e.good.tab p hp
    refine ⟨ps, keepH a1, a2, fun pos cv hcv => ?_⟩
    obtain ⟨c0, e1, e2⟩ := a3 pos cv hcv
    exact ⟨c0, e1, keepH e2⟩
  · have h : Trk t F'.P f = some (uT f o) := h
    cases q2 : t f with
    | some o' =>
      rw [trk_some q2] at h
      have eo : o' = o := by
        have := Option.some.inj h
        unfold uT at this
        injection this
      subst eo
      exact cd f o' q2 q ps b sc cl pm c ctv z
    | none =>
      rw [trk_none q2] at h
      exact keepH (e.good.cod f o h q ps b sc cl pm c ctv z)
  · show Trk t F'.P a = some o
    cases q : t a with
    | some o' => rw [trk_some q]; rw [x a o' q] at h; exact h
    | none => rw [trk_none q]; exact e.mono a o (by show Unt t F.P a = _; rw [unt_none q]; exact h)
  · cases q : t a with
    | some o' => rw [trk_some q]; rw [xh a o' q] at h; exact h
    | none => rw [trk_none q]; exact e.keep a o (by rw [unt_none q]; exact h) nt ntb
  · cases q : t a with
    | some o' => exact .inl (by rw [x a o' q]; intro z; cases z)
    | none =>
      have h' : F'.P a ≠ none ∨ F'.T a := h.elim (fun z => .inl (by rw [show (addF t F').P a = F'.P a from trk_none q] at z; exact z)) .inr
      rcases e.fresh a h' with z | z | z
      · exact .inl (by rw [show (cutF t F).P a = F.P a from unt_none q] at z; exact z)
      · exact .inr (.inl z)
      · exact .inr (.inr fun o ho => z o (by rw [unt_none q]; exact ho))
theorem add_le (fn : ∀ b o, t b = some o → F'.P b = none) : F'.Le (addF t F') := ⟨fun a o h => by
  show Trk t F'.P a = some o
  cases q : t a with
  | none => rw [trk_none q]; exact h
  | some o' => exact absurd (h.symm.trans (fn a o' q)) (fun z => by cases z), fun _ h => h⟩
end
/-! ### the call -/
theorem look_eq {α : Type} {n y : Str} {a : α} {l : List (Str × α)} (e : y = n) : ((n, a) :: l).lookup y = some a := by
  subst e
  rw [List.lookup_cons, beq_self_eq_true]
theorem look_ne {α : Type} {n y : Str} {a : α} {l : List (Str × α)} (e : y ≠ n) : ((n, a) :: l).lookup y = l.lookup y := by
  rw [List.lookup_cons, beq_eq_false_iff_ne.mpr e]
theorem zip_lookup : ∀ {ns : List Str} {cs : List Addr} {y : Str} {c : Addr}, (ns.zip cs).lookup y = some c → ∃ i : Nat, ns[i]? = some y ∧ cs[i]? = some c
  | [], _, _, _, h => nomatch h
  | _ :: _, [], _, _, h => nomatch h
  | n :: ns, c0 :: cs, y, c, h => by
    rw [List.zip_cons_cons] at h
    by_cases e : y = n
    · rw [look_eq e] at h
      exact ⟨0, by rw [e]; rfl, h⟩
    · rw [look_ne e] at h
      obtain ⟨i, h1, h2⟩ := zip_lookup h
      exact ⟨i + 1, h1, h2⟩
theorem zip_at : ∀ {ns : List Str} {cs : List Addr} {i : Nat} {y : Str}, ns.Nodup → ns.length = cs.length → ns[i]? = some y → ∃ c, cs[i]? = some c ∧ (ns.zip cs).lookup y = some c
  | [], _, i, _, _, _, h => by simp at h
  | _ :: _, [], _, _, _, hl, _ => by simp at hl
  | n :: ns, c0 :: cs, 0, y, nd, hl, h => by
    have h : n = y := by simpa using h
    exact ⟨c0, rfl, by rw [List.zip_cons_cons, look_eq h.symm]⟩
  | n :: ns, c0 :: cs, i + 1, y, nd, hl, h => by
    obtain ⟨n1, n2⟩ := List.nodup_cons.mp nd
    have h' : ns[i]? = some y := by simpa using h
    obtain ⟨c, h1, h2⟩ := zip_at (i := i) n2 (by simpa using hl) h'
    refine ⟨c, by simpa using h1, ?_⟩
    have ne : y ≠ n := fun e => n1 (by rw [← e]; exact List.mem_of_getElem? h')
    rw [List.zip_cons_cons, look_ne ne]
    exact h2
def cellsT (P : Hp) (cs : List Addr) : TS1 := fun b => if b ∈ cs then (match P b with
  | some (.frz o _) => some o
  | _ => none) else none
def tLV (K : PySem.W.Frag) (C : Nat → Value) (cf : En → Tree (Res D)) (E : XK) : TE := fun σ H Q => ∃ B F E', Good F H ∧ RelE K B F H σ E' ∧ (cf E').all (PV K C F H Q E)
def capE (ds : List D) : En := ds.map fun d => some ⟨false, d⟩
theorem cap_rel {K : PySem.W.Frag} {F : Fz} {H : Hp} {vs : List V} {ds : List D} (r : Reps K F vs ds) (B : Addr → Prop) : RelE K B F H (vs.map some) (capE ds) where
  len := by unfold capE; rw [List.length_map, List.length_map, r.length]
  val := fun i d h => by
    unfold capE at h
    rw [List.getElem?_map] at h
    obtain ⟨d', hd, e⟩ := Option.map_eq_some_iff.mp h
    cases e
    have hi : i < vs.length := by rw [r.length]; exact (List.getElem?_eq_some_iff.mp hd).1
    obtain ⟨d2, h2, rd⟩ := r.get (List.getElem?_eq_getElem hi)
    rw [hd] at h2
    cases h2
    exact ⟨vs[i], by rw [List.getElem?_map, List.getElem?_eq_getElem hi]; rfl, rd⟩
  own := fun i d h => by
    unfold capE at h
    rw [List.getElem?_map] at h
    obtain ⟨d', hd, e⟩ := Option.map_eq_some_iff.mp h
    cases e
  dist := fun i j d e a _ h => by
    unfold capE at h
    rw [List.getElem?_map] at h
    obtain ⟨d', hd, e⟩ := Option.map_eq_some_iff.mp h
    cases e
section
variable {P : Program} {w : World} {K : PySem.W.Frag} {mg : Str → Option Value} {base : Heap} {A : Around} {outer : List Env} {s s' : Shared} {F : Fz} {H : Hp} {k n m : Nat} {f : Addr} {x : CloT} {C : Nat → Value} {ds : List D} {Q Q' : VK} {E E' : XK} {cf : En → Tree (Res D)}
theorem ce_imp {u : Value} (c : CE outer P w H s Q u s') (h : ∀ v H', Q v H' → Q' v H') : CE outer P w H s Q' u s' := by
  obtain ⟨v, H', os, bare, un, hok, r, q⟩ := c
  exact ⟨v, H', os, bare, un, hok, r, h _ _ q⟩
theorem cx_imp {u : Value} (c : L2N.CX P w outer H s E u s') (h : ∀ cls d H', E cls d H' → E' cls d H') : L2N.CX P w outer H s E' u s' := by
  obtain ⟨a, B, H', cls, d, e, fl, hok, ub, na, os, ag, q⟩ := c
  exact ⟨a, B, H', cls, d, e, fl, hok, ub, na, os, ag, h _ _ _ q⟩
/-- what the text says of a kept lambda -/
structure LamC (x : CloT) : Prop where
  sc : NdefX.NScope x.ns [] x.ns x.scope
  bind : ∀ (cl : List (Str × Addr)) (pm cv ctv : Value), bindArgs (PySem.W.kla_fn "<lambda>" x.q x.params x.body x.scope cl pm cv ctv) ⟨[], []⟩ = pure []
theorem clo_run (hx : CLOS[n]? = some x) (L : LamC x)
    (hbody : ∀ (A : Around) (outer : List Env) (s : Shared) (H : Hp) (E : XK) (f c : Addr) (cl : List (Str × Addr)), Room k (A.deeper (NdefX.envF (nfOf x cl c) f s.heap.objs.size)) → PE (NdefX.ncx (L2N.CX P w) P w K mg base x.ns (nfOf x cl c) f A outer s H E) x.body (tLV K C cf E))
    (g : Good F H) (r : Rep K F (.ref f) (.clo n ds)) (hn : ds.all (noClo m) = true) (hr : Room (k + 1) A) (e0 : Env0 P w K mg base A outer s H) (q : (cf (capE ds)).all (PV K C F H Q E)) :
    codeAny (model P w) A (.call (.ref f) ⟨[], []⟩) (CR (L2N.CX P w) outer P w H s Q E) s := by
  cases r with
  | @clo _ c _ x' cs pm ctv vs _ hc hf hl hd hv hw rs =>
  rw [hx] at hc
  cases hc
  have at_ : ∀ {b : Addr}, b ∈ cs → ∃ o v u, F.P b = some (uT b o) ∧ o.data = .cell (some u) ∧ (b, v) ∈ cs.zip vs ∧ L2.RelV v u := fun {b} hb => by
    obtain ⟨i, hi, rfl⟩ := List.mem_iff_getElem.mp hb
    have hi2 : i < vs.length := by omega
    have hm : (cs[i], vs[i]) ∈ cs.zip vs := List.mem_iff_getElem.mpr ⟨i, by rw [List.length_zip]; omega, by rw [List.getElem_zip]⟩
    obtain ⟨o, u, h1, h2, h3⟩ := hv _ hm
    exact ⟨o, vs[i], u, h1, h2, hm, h3⟩
  have tin : TIn (cellsT F.P cs) F.P := fun b o h => by
    unfold cellsT at h
    by_cases hb : b ∈ cs
    · obtain ⟨o', v, u, h1, _⟩ := at_ hb
      rw [if_pos hb, h1] at h
      unfold uT at h
      cases h
      exact h1
    · rw [if_neg hb] at h; cases h
  have tsome : ∀ {b : Addr}, b ∈ cs → ∃ o, cellsT F.P cs b = some o := fun {b} hb => by
    obtain ⟨o', v, u, h1, _⟩ := at_ hb
    refine ⟨o', ?_⟩
    unfold cellsT
    rw [if_pos hb, h1]
    rfl
  have tdata : ∀ b o, cellsT F.P cs b = some o → ∃ u, o.data = .cell (some u) := fun b o h => by
    by_cases hb : b ∈ cs
    · obtain ⟨o', v, u, h1, h2, _⟩ := at_ hb
      have := tin b o h
      rw [h1] at this
      have eo : o' = o := by
        have e := Option.some.inj this
        unfold uT at e
        injection e
      exact ⟨u, eo ▸ h2⟩
    · unfold cellsT at h; rw [if_neg hb] at h; cases h
  generalize cellsT F.P cs = t at *
  have tinH : TIn t H := tin.le g.sub
  have e1 := env0_let e0 tinH
  have ho : s.heap.get? f = some (PySem.W.kla_obj "<lambda>" x.q x.params x.body x.scope (x.ns.zip cs) pm c ctv) := (e0.hok f _ (g.sub f _ hf)).1
  have hcod : Unt t H c = some (LamX.CodeO c x.q) := by
    have h1 := g.cod f _ hf _ _ _ _ _ _ _ _ rfl
    rw [unt_none (tinH.nn h1 fun o z => by unfold LamX.CodeO at z; cases z)]
    exact h1
  have cell : ∀ {b : Addr}, b ∈ cs → ∃ o v u, s.heap.get? b = some o ∧ o.data = .cell (some u) ∧ (b, v) ∈ cs.zip vs ∧ L2.RelV v u := fun {b} hb => by
    obtain ⟨o, v, u, h1, h2, h3, h4⟩ := at_ hb
    exact ⟨o, v, u, (e0.hok b _ (g.sub b _ h1)).1, h2, h3, h4⟩
  have CA : NdefX.CellsAt (x.ns.zip cs) x.ns (vs.map some) s.heap (Unt t H) := by
    refine ⟨by rw [List.length_map]; omega, fun y c' h => ?_, fun y z c' h1 h2 => ?_, fun i y h => ?_⟩
    · obtain ⟨i, h1, h2⟩ := zip_lookup h
      have hb := List.mem_of_getElem? h2
      obtain ⟨o, ho'⟩ := tsome hb
      obtain ⟨o2, v, u, k1, k2, _⟩ := cell hb
      exact ⟨unt_some ho', some u, o2, k1, k2⟩
    · obtain ⟨i, a1, a2⟩ := zip_lookup h1
      obtain ⟨j, b1, b2⟩ := zip_lookup h2
      have hi := (List.getElem?_eq_some_iff.mp a2).1
      have e : i = j := (List.getElem?_inj hi hd).mp (a2.trans b2.symm)
      subst e
      rw [a1] at b1
      exact Option.some.inj b1
    · obtain ⟨c', h1, h2⟩ := zip_at L.sc.nd hl h
      refine ⟨c', h2, fun v hv' => ?_⟩
      have hi := (List.getElem?_eq_some_iff.mp h1).1
      have hi2 : i < vs.length := by omega
      rw [List.getElem?_map, List.getElem?_eq_getElem hi2] at hv'
      cases hv'
      have hm : (c', vs[i]) ∈ cs.zip vs := List.mem_iff_getElem.mpr ⟨i, by rw [List.length_zip]; omega, by
        rw [List.getElem_zip]
        have := (List.getElem?_eq_some_iff.mp h1).2
        rw [this]⟩
      obtain ⟨o, u, k1, k2, k3⟩ := hv _ hm
      exact ⟨u, k3, o, (e0.hok c' _ (g.sub c' _ k1)).1, k2⟩
  have cd : ∀ (H' : Hp) b o, t b = some o → CodOk H' o := fun H' b o h q ps bo sc cl pm' c' ctv' e => by
    obtain ⟨u, hu⟩ := tdata b o h
    rw [e] at hu
    cases hu
  have st : NdefX.startF x.ns [] (vs.map some) = vs.map some := by
    unfold NdefX.startF
    rw [List.map_nil, List.nil_append, List.length_nil, List.length_map, show x.ns.length - 0 - vs.length = 0 by omega]
    simp
  have fin : ∀ {F' : Fz} {H' : Hp}, Ext (cutF t F) (Unt t H) F' H' → (∀ b o, t b = some o → H' b = none) → Ext F H (addF t F') (Trk t H') ∧ F'.Le (addF t F') := fun {F' H'} e un =>
    ⟨add_ext g tin e un (cd _), add_le fun b o h => by
      cases z : F'.P b with
      | none => rfl
      | some u => have := e.good.sub b u z; rw [un b o h] at this; cases this⟩
  have rc := lam_run (CX := L2N.CX P w) (Q := fun v H' => (∀ b o, t b = some o → H' b = none) → Q v (Trk t H')) (E := fun cls d H' => (∀ b o, t b = some o → H' b = none) → E cls d (Trk t H')) hr e1 ho hcod L.sc CA (L.bind _ _ _ _) (hbody A outer s (Unt t H) _ f c (x.ns.zip cs))
    ⟨fun _ => True, cutF t F, capE ds, cut_good g tin, by rw [st]; exact cap_rel (cutRs (cutR tin m) ds vs hn rs) _, Tree.all_mono (fun o k => by
      cases o with
      | ok d => exact fun v F' H' e rv un => k v _ _ (fin e un).1 (rv.mono (fin e un).2)
      | ex i v =>
        refine fun F' H' d e xv un => k _ _ d (fin e un).1 ?_
        cases v with
        | none => exact xv
        | some v =>
          obtain ⟨dd, w', rfl, h1, h2⟩ := xv
          refine ⟨dd, w', rfl, ?_, h2.mono (fin e un).2⟩
          cases q2 : t dd with
          | none => rw [trk_none q2]; exact h1
          | some o => rw [un dd o q2] at h1; cases h1) q⟩
  refine codeAny_mono rc fun res s' hq => ?_
  cases res with
  | error e => exact cx_imp (cx_let tinH e0.hok e0.frf hq) fun cls d H' ⟨H2, e2, un, q2⟩ => e2 ▸ q2 un
  | ok fl =>
    cases fl with
    | ret u => exact ce_imp (ce_let tinH e0.hok e0.frf hq) fun v H' ⟨H2, e2, un, q2⟩ => e2 ▸ q2 un
    | next => exact hq
    | brk => exact hq
    | cont => exact hq
end
end R

set_option Elab.async false
set_option linter.all false
set_option maxRecDepth 100000
set_option maxHeartbeats 2000000
/-! x(), x a parameter that holds a kept lambda -/
namespace R
open PySem PySem.Spec PyProof.Rows L2
open Tree (leaf fail)
/-- the lambdas' readings: the n-th one's body under what it took -/
structure CloOk (P : Program) (w : World) (K : PySem.W.Frag) (mg : Str → Option Value) (base : Heap) (k : Nat) (C : Nat → Value) (n : Nat) (cf : En → Tree (Res D)) : Prop where
  ex : ∃ x, CLOS[n]? = some x ∧ LamC x ∧ ∀ (A : Around) (outer : List Env) (s : Shared) (H : Hp) (E : XK) (f c : Addr) (cl : List (Str × Addr)), Room k (A.deeper (NdefX.envF (nfOf x cl c) f s.heap.objs.size)) → PE (NdefX.ncx (L2N.CX P w) P w K mg base x.ns (nfOf x cl c) f A outer s H E) x.body (tLV K C cf E)
/-- x() -/
def mClo (i : Nat) (cfs : List (En → Tree (Res D))) : En → Tree (Res D) := fun E => match E[i]? with
  | some (some ⟨false, .clo n ds⟩) => if ds.all (noClo 20) = true then (cfs.getD n fun _ => fail) (capE ds) else fail
  | _ => fail
def tVW (K : PySem.W.Frag) (C : Nat → Value) (W : WX) (m : En → Tree (Res D)) : TE := fun σ H Q => ∃ B F E, Good F H ∧ RelE K B F H σ E ∧ (m E).all (PV K C F H Q fun cls d H' => W cls d σ H')
theorem pe_clo {X : Cx} {W : WX} {C : Nat → Value} {k i : Nat} {a : Str} {cfs : List (En → Tree (Res D))} {p1 p2 : Pos} (hv : PE X (.Name a p1) (tVar i)) (ok : ∀ n cf, cfs[n]? = some cf → CloOk X.prog X.w X.K X.mg X.base k C n cf) (tk : L2N.Takes X W) (hr : Room (k + 1) X.A) :
    PE X (.Call (.Name a p1) [] [] p2) (tVW X.K C W (mClo i cfs)) := by
  refine ⟨fun pins s σ H Q I ⟨B, F, E, g, rl, q⟩ => ?_⟩
  unfold mClo at q
  split at q
  · rename_i n ds hE
    obtain ⟨v, hs, rv⟩ := rl.val i _ hE
    by_cases hn : ds.all (noClo 20) = true
    · rw [if_pos hn] at q
      cases hc : cfs[n]? with
      | none =>
        rw [List.getD_eq_getElem?_getD, hc] at q
        exact q.elim
      | some cf =>
        rw [List.getD_eq_getElem?_getD, hc] at q
        obtain ⟨x, hx, L, hb⟩ := (ok n cf hc).ex
        obtain ⟨f, rfl⟩ : ∃ f, v = .ref f := by
          cases rv
          exact ⟨_, rfl⟩
        refine wpAny_Call_Name_kw (thn (hv.run pins s σ H (fun v H1 => v = .ref f ∧ H1 = H) I ⟨.ref f, hs, rfl, rfl⟩) fun u s1 ⟨v, H1, I1, r1, q1⟩ => ?_)
        obtain ⟨ev, eH⟩ := q1
        subst ev
        subst eH
        obtain rfl : u = Value.ref f := r1
        have fo : ∃ (xx : CloT) (cl : List (Str × Addr)) (pm ctv : Value) (c : Addr), s1.heap.get? f = some (PySem.W.kla_obj "<lambda>" xx.q xx.params xx.body xx.scope cl pm c ctv) := by
          cases rv with
          | @clo _ c _ x' cs pm ctv vs _ hc' hf hl hd hv' hw rs => exact ⟨x', _, pm, ctv, c, (I1.hok f _ (g.sub f _ hf)).1⟩
        obtain ⟨xx, cl, pm, ctv, c, ho⟩ := fo
        refine PySem.W.callWith_F0 ⟨_, _, _, _, ho⟩ ?_
        refine wpAny_call (codeAny_mono (clo_run (E := fun cls d H' => W cls d σ H') hx L hb g rv hn hr I1.env0 q) fun r s' hq => ?_)
        cases r with
        | error e => exact L2N.passAt tk σ pins _ s1 e s' I1 hq
        | ok fl =>
          cases fl with
          | ret u => exact I1.after hq
          | next => exact False.elim hq
          | brk => exact False.elim hq
          | cont => exact False.elim hq
    · rw [if_neg hn] at q
      exact q.elim
  · exact q.elim
/-! ### the body of a kept lambda: a call of a def that may raise -/
section
variable {P : Program} {w : World} {K : PySem.W.Frag} {mg : Str → Option Value} {base : Heap} {A : Around} {outer : List Env} {s : Shared} {H : Hp} {E : XK} {f c : Addr} {cl : List (Str × Addr)} {x : CloT} {C : Nat → Value} {k j : Nat} {fx : List D → Tree (Res D)} {ma : En → Tree (List D)} {y : Str} {e : Expr} {es : List Expr} {p pos : Pos}
def mCloCall (fx : List D → Tree (Res D)) (ma : En → Tree (List D)) : En → Tree (Res D) := fun E => (ma E).bind fx
theorem clo_call (cx : CalV P w K mg base j y C fx) (hr : Room k (A.deeper (NdefX.envF (nfOf x cl c) f s.heap.objs.size))) (hj : j ≤ k) (hg : x.scope.names.lookup y = some .globalImplicit)
    (ha : SA (NdefX.ncx (L2N.CX P w) P w K mg base x.ns (nfOf x cl c) f A outer s H E) (e :: es) ma) (hdb : (y == ("__debug__" : Str)) = false := by decide)
    (he : ∀ env, starEach (e :: es) env = (false, eval e env) :: starEach es env := by intro; rfl) (hpl : ∀ env, (backTo pos (starEach es env)).any (·.1) = false := by intro; rfl) :
    PE (NdefX.ncx (L2N.CX P w) P w K mg base x.ns (nfOf x cl c) f A outer s H E) (.Call (.Name y p) (e :: es) [] pos) (tLV K C (mCloCall fx ma) E) := by
  obtain ⟨g, fd, ps, F, hm, kp, b⟩ := cx.ex
  have tk : L2N.Takes (NdefX.ncx (L2N.CX P w) P w K mg base x.ns (nfOf x cl c) f A outer s H E) (fun cls d _ H => E cls d H) := L2N.takes_of rfl rfl rfl rfl
  refine PE.weak (pe_callS (X := NdefX.ncx (L2N.CX P w) P w K mg base x.ns (nfOf x cl c) f A outer s H E) (E := fun _ => E) F (hr.mono hj) hg hm kp b (fun σ => L2N.passAt tk σ) ha.pa hdb (he _) (hpl _)) fun σ H1 Q ⟨B, F', E', g', rl, q⟩ => ?_
  refine ⟨B, F', E', g', rl, Tree.all_mono (fun ds k vs F2 H2 e2 p2 => ?_) (Tree.all_bind.mp q)⟩
  refine ⟨F2, ds, e2.good, p2, Tree.all_mono (fun o ko => ?_) k⟩
  cases o with
  | ok d => exact fun v F3 H3 e3 rv => ko v F3 H3 (e2.trans e3) rv
  | ex i v => exact fun F3 H3 d e3 xv => ko F3 H3 d (e2.trans e3) xv
end
end R

set_option Elab.async false
set_option linter.all false
set_option maxRecDepth 100000
set_option maxHeartbeats 2000000
/-! several except clauses, each with a name of its own or without one -/
namespace R
open PySem PySem.Spec PyProof.Rows L2
/-- behind a clause with a name, slot i is let go -/
def offE (i : Nat) (D : Ends) : Ends := { nx := fun τ G => D.nx (τ.set i none) G, rt := D.rt, bk := fun τ G => D.bk (τ.set i none) G, ct := fun τ G => D.ct (τ.set i none) G }
abbrev SuT := Addr → Value → Option Addr → TS
def asT (i : Nat) (ts : SuT) : SuT := fun a cls d D σ H => ts a cls d (offE i D) (σ.set i (some (.ref a))) H
/-- a clause's suite reads so -/
def SuOk (X : Cx) (ss : List Stmt) (ts : SuT) : Prop := ∀ (a : Addr) (ob : Obj) (cls : Value) (d : Option Addr) (q : List (Addr × Obj)), L2N.Zn cls d ob → (∃ fs, ob.data = .fields fs) → PSs (X.suite a ((a, ob) :: q)) ss (ts a cls d)
inductive HdsA (X : Cx) : List ExceptHandler → List (Value × SuT) → Prop
  | nil : HdsA X [] []
  | bare {x : Str} {c : Value} {ts : SuT} {st : Stmt} {ss : List Stmt} {p p' : Pos} {hds : List ExceptHandler} {l : List (Value × SuT)} (nm : Names X x c) (su : SuOk X (st :: ss) ts) (r : HdsA X hds l) :
      HdsA X (.ExceptHandler (some (.Name x p)) none (st :: ss) p' :: hds) ((c, ts) :: l)
  | as {x n : Str} {i : Nat} {c : Value} {ts : SuT} {st : Stmt} {ss : List Stmt} {p p' : Pos} {hds : List ExceptHandler} {l : List (Value × SuT)} (nm : Names X x c) (hi : X.N[i]? = some n) (hk : X.env.kindOf n = some .local) (su : SuOk X (st :: ss) ts) (r : HdsA X hds l) :
      HdsA X (.ExceptHandler (some (.Name x p)) (some n) (st :: ss) p' :: hds) ((c, asT i ts) :: l)
section
variable {X : Cx} {body : List Stmt} {h1 : ExceptHandler} {hds : List ExceptHandler} {l : List (Value × SuT)} {pos : Pos} {tb : WX → TS} {W0 : WX}
theorem ps_tryA (estk : X.stack = X.env :: X.outer) (efr : X.env.frame = some X.env.locals) (ndN : X.N.Nodup) (tk0 : L2N.Takes X W0)
    (bd : ∀ (W : WX) (q : List (Addr × Obj)) (xe : Value → Shared → Prop), L2N.Takes (X.tr q xe) W → PassesOwn (model X.prog X.w) X.A X.env xe → PSs (X.tr q xe) body (tb W))
    (hk : HdsA X (h1 :: hds) l) : PS X (.Try body (h1 :: hds) [] [] pos) (fun D σ H => tb (wMany X.K W0 D l) D σ H) := by
  refine ⟨fun qs s0 σ0 H0 D J0 h0 => ?_⟩
  have gd := J0.ok
  have efs : X.A.frames = some (X.env :: X.outer) := by rw [gd.frames, estk]
  refine wpAny_Try_except (wpAny_mono ((bd (wMany X.K W0 D l) (X.pn ++ qs) (fun u t1 => wpAny (model X.prog X.w) X.A (noteFrame u X.env) (fun _ t2 => wpAny (model X.prog X.w) X.A (setFlight u none) (fun _ t3 =>
    wpAny (model X.prog X.w) X.A (handleBy u X.env (h1 :: hds)) (L2.SP X qs D) X.xe t3) X.xe t2) X.xe t1) (fun u t1 air => ?_) PassesOwn.looking).run [] s0 σ0 H0 D (J0.toTry _) h0) (fun fl t1 q => ?_) (fun _ _ z => z))
  · obtain ⟨a, B, sI, qs', τ, G, cls, d, rfl, Jt, nb, up, sky, na, eos, bare, wish⟩ := air
    have J : Inv X qs τ G sI := Jt.ofTry gd
    have sky1 : Sky B (X.env :: X.outer) a (L2N.Zn cls d) X.env.locals t1.heap := by rw [← estk]; exact sky
    show wpAny _ X.A (noteFrame (.ref a) X.env) _ _ _
    refine L2N.Sky.land L2N.Zn.steady efs efr sky1 fun g3 in3 up3 => ?_
    have J3 : Inv X qs τ G { t1 with heap := g3 } := J.landed nb in3.1 (up.trans up3) eos bare
    obtain ⟨ob, fs, eob, zob, dob⟩ := in3.there
    have off : a ∉ frs (X.env :: X.outer) := fun hm => by
      obtain ⟨_, ob2, e2, nf⟩ := in3.2.2.1.mem hm
      rw [eob] at e2
      cases e2
      exact nf _ dob
    have offL : a ≠ X.env.locals := fun z => off (List.mem_filterMap.mpr ⟨X.env, List.mem_cons_self, by rw [efr, z]⟩)
    have offF : a ∉ X.fs := fun hm => by
      obtain ⟨en, he, q⟩ := List.mem_filterMap.mp hm
      exact off (List.mem_filterMap.mpr ⟨en, List.mem_cons_of_mem _ he, q⟩)
    have U3 := J3.suite eob dob na offL offF
    have LT : PySem.W.Looks (model X.prog X.w) g3 (typeOf (.ref a)) cls := fun A Q E s k q => wpAny_typeOf_ref (k _ _ eob) (by rw [zob.1]; exact q)
    have look : ∀ {x : Str} {c : Value} {p : Pos}, Names X x c → ∀ {Q : Value → Shared → Prop} {E : Value → Shared → Prop}, Q c { t1 with heap := g3 } → wpAny (model X.prog X.w) (X.A.mark (some (.ref a))) (eval (.Name x p) X.env) Q E { t1 with heap := g3 } := fun {x c p} nm {Q E} q => by
      obtain ⟨gl, nd, mg | ⟨mg, bt, nn⟩⟩ := nm
      · exact ld_glob (X := X.suite a ((a, ob) :: (X.pn ++ qs))) U3 gl mg q nd
      · exact ld_blt (X := X.suite a ((a, ob) :: (X.pn ++ qs))) U3 gl mg bt q nn nd
    have go : ∀ {ks : List ExceptHandler} {m : List (Value × SuT)}, HdsA X ks m → wMany X.K W0 D m cls d τ G → wpAny (model X.prog X.w) X.A (handleBy (.ref a) X.env ks) (L2.SP X qs D) X.xe { t1 with heap := g3 } := by
      intro ks m hm
      induction hm with
      | nil =>
        intro wish
        refine wpAny_handleBy_nil ?_
        obtain ⟨_, _, _, ob4, fs4, T, _, _, e4, _, d4, f1, _⟩ := id in3
        unfold PySem.passOn
        refine wpAny_bind (wpAny_field e4 d4 f1 ?_)
        rw [if_neg (show ¬ ((Value.ref T == Value.none) = true) by simp)]
        have on : wpAny (model X.prog X.w) X.A (setFlight (.ref a) X.env.frame) (fun _ t4 => wpAny (model X.prog X.w) X.A (throw (.ref a) : Sem Flow) (L2.SP X qs D) X.xe t4) X.xe { t1 with heap := g3 } := by
          rw [efr]
          exact HandSPX.setFlight_upZ in3 fun g4 hold up4 => wpAny_throw (tk0 _ _ ⟨a, B, sI, qs, τ, G, cls, d, rfl, J, nb, (up.trans up3).trans up4, .inr (.inr (by rw [estk]; exact hold)), na, eos, bare, wish⟩)
        first | exact wpAny_bind (wpAny_pure (wpAny_bind on)) | exact wpAny_bind on
      | bare nm su r ih =>
        intro ⟨b, eb, yes, no⟩
        refine wpAny_handleBy_cons (codeAny_handlers_test ?_) (by intro q; cases q)
        refine look nm ((PySem.W.exm_one (M := model X.prog X.w) J3.kIn LT eb).here ?_)
        cases b with
        | false =>
          show wpAny _ X.A (handleBy (.ref a) X.env _) _ _ _
          exact ih (no rfl)
        | true =>
          refine codeAny_handlers_suite (HandSPX.lands_againZ in3 fun g4 in4 up4 => ?_)
          have J4 : Inv X qs τ G { t1 with heap := g4 } := J.landed nb in4.1 ((up.trans up3).trans up4) eos bare
          obtain ⟨ob4, fs4, e4, z4, d4⟩ := in4.there
          refine wpAny_mono ((su a ob4 cls d (X.pn ++ qs) z4 ⟨_, d4⟩).run [] _ _ G _ (J4.suite e4 d4 na offL offF) (yes rfl a na)) (fun fl t6 q => ?_) (fun _ _ z => False.elim z)
          cases fl with
          | ret u => obtain ⟨v, τ6, G6, S6, r6, k⟩ := q; exact ⟨v, τ6, G6, S6.unsuite gd, r6, k⟩
          | next => obtain ⟨τ6, G6, S6, k⟩ := q; exact ⟨τ6, G6, S6.unsuite gd, k⟩
          | brk => obtain ⟨τ6, G6, S6, k⟩ := q; exact ⟨τ6, G6, S6.unsuite gd, k⟩
          | cont => obtain ⟨τ6, G6, S6, k⟩ := q; exact ⟨τ6, G6, S6.unsuite gd, k⟩
      | @as x n i c ts st ss p p' ks2 m2 nm hi hkd su r ih =>
        intro ⟨b, eb, yes, no⟩
        refine wpAny_handleBy_cons (codeAny_handlers_test ?_) (by intro q; cases q)
        refine look nm ((PySem.W.exm_one (M := model X.prog X.w) J3.kIn LT eb).here ?_)
        cases b with
        | false =>
          show wpAny _ X.A (handleBy (.ref a) X.env _) _ _ _
          exact ih (no rfl)
        | true =>
          have locn : Loc X.env.scope n := .inl hkd
          refine codeAny_handlers_suite_as (HandSPX.lands_againZ in3 fun g4 in4 up4 => ?_)
          have J4 : Inv X qs τ G { t1 with heap := g4 } := J.landed nb in4.1 ((up.trans up3).trans up4) eos bare
          obtain ⟨ob4, fs4, e4, z4, d4⟩ := in4.there
          refine store_ok (X := X.suite a ((a, ob4) :: (X.pn ++ qs))) (v := .ref a) (J4.suite e4 d4 na offL offF) ndN hi locn rfl (fun t5 S5 => ?_) (.inr hkd)
          refine wpAny_mono ((su a ob4 cls d (X.pn ++ qs) z4 ⟨_, d4⟩).run [] t5 _ G _ S5 (yes rfl a na)) (fun fl t6 q => ?_) (fun _ _ z => False.elim z)
          have fin : ∀ {τ6 : L2.St} {G6 : Hp} {Q : Shared → Prop}, Inv (X.suite a ((a, ob4) :: (X.pn ++ qs))) [] τ6 G6 t6 → (∀ t7, Inv X qs (τ6.set i none) G6 t7 → Q t7) → wpAny (model X.prog X.w) X.A (do bindName X.env n .none; unbindBehindTheSuite X.env n p') (fun _ t7 => Q t7) X.xe t6 := fun {τ6 G6 Q} S6 k => gone_ok (S6.unsuite gd) ndN hi hkd k
          cases fl with
          | ret u => obtain ⟨v, τ6, G6, S6, r6, k⟩ := q; exact fin S6 fun t7 J7 => ⟨v, _, G6, J7, r6, k⟩
          | next => obtain ⟨τ6, G6, S6, k⟩ := q; exact fin S6 fun t7 J7 => ⟨_, G6, J7, k⟩
          | brk => obtain ⟨τ6, G6, S6, k⟩ := q; exact fin S6 fun t7 J7 => ⟨_, G6, J7, k⟩
          | cont => obtain ⟨τ6, G6, S6, k⟩ := q; exact fin S6 fun t7 J7 => ⟨_, G6, J7, k⟩
    exact go hk wish
  · cases fl with
    | ret u => obtain ⟨v, τ, G, Jt, r, k⟩ := q; exact ⟨v, τ, G, Jt.ofTry gd, r, k⟩
    | next => obtain ⟨τ, G, Jt, k⟩ := q; exact wpAny_execs_nil ⟨τ, G, Jt.ofTry gd, k⟩
    | brk => obtain ⟨τ, G, Jt, k⟩ := q; exact ⟨τ, G, Jt.ofTry gd, k⟩
    | cont => obtain ⟨τ, G, Jt, k⟩ := q; exact ⟨τ, G, Jt.ofTry gd, k⟩
end
end R

set_option Elab.async false
set_option linter.all false
set_option maxRecDepth 100000
set_option maxHeartbeats 2000000
/-! try: x() / except C as e: ..; x a parameter that holds a kept lambda -/
namespace R
open PySem PySem.Spec PyProof.Rows L2
open Tree (leaf fail)
/-- a clause's suite, by the exception's class and value -/
abbrev SuV := Nat → Option D → En → Tree Out
def tSuV (K : PySem.W.Frag) (C : Nat → Value) (i : Nat) (sm : SuV) : SuT := fun a cls d D σ H => ∃ k v F0 H0 F E, cls = C k ∧ XV K F H v d ∧ σ[i]? = some (some (.ref a)) ∧ Ext F0 H0 F H ∧ RelE K (B0 H0) F H σ E ∧ (sm k v E).all (Post K F0 H0 F D)
inductive HdsV (X : Cx) (C : Nat → Value) : List ExceptHandler → List (Value × Nat × SuV) → Prop
  | nil : HdsV X C [] []
  | as {x n : Str} {i : Nat} {c : Value} {sm : SuV} {st : Stmt} {ss : List Stmt} {p p' : Pos} {hds : List ExceptHandler} {l : List (Value × Nat × SuV)} (nm : Names X x c) (hi : X.N[i]? = some n) (hk : X.env.kindOf n = some .local) (su : SuOk X (st :: ss) (tSuV X.K C i sm)) (r : HdsV X C hds l) :
      HdsV X C (.ExceptHandler (some (.Name x p)) (some n) (st :: ss) p' :: hds) ((c, i, sm) :: l)
theorem HdsV.hds {X : Cx} {C : Nat → Value} {hds : List ExceptHandler} {l : List (Value × Nat × SuV)} (h : HdsV X C hds l) : HdsA X hds (l.map fun z => (z.1, asT z.2.1 (tSuV X.K C z.2.1 z.2.2))) := by
  induction h with
  | nil => exact .nil
  | as nm hi hk su r ih => exact .as nm hi hk su ih
def offO (i : Nat) : Out → Out
  | .nx E => .nx (E.set i none)
  | .bk E => .bk (E.set i none)
  | .ct E => .ct (E.set i none)
  | .rt d => .rt d
def hdlV (mt : Nat → Nat → Option Bool) (k : Nat) (v : Option D) : Nat → List (Nat × SuV) → En → Tree Out
  | _, [], _ => fail
  | j, (i, sm) :: r, E => match mt k j with
    | some true => if i < E.length then (sm k v (E.set i none)).bind fun o => leaf (offO i o) else fail
    | some false => hdlV mt k v (j + 1) r E
    | none => fail
def oTryV (mc : En → Tree (Res D)) (mt : Nat → Nat → Option Bool) (l : List (Nat × SuV)) : En → Tree Out := fun E => (mc E).bind fun r => match r with
  | .ok _ => leaf (.nx E)
  | .ex k v => hdlV mt k v 0 l E
section
variable {X : Cx} {C : Nat → Value} {W0 : WX} {mt : Nat → Nat → Option Bool} {l : List (Value × Nat × SuV)}
theorem post_off {K : PySem.W.Frag} {F0 F : Fz} {H0 : Hp} {D0 : Ends} {i : Nat} {o : Out} (h : Post K F0 H0 F D0 (offO i o)) : Post K F0 H0 F (offE i D0) o := by
  cases o with
  | nx E => exact fun σ' F' H' e l r => h _ F' H' e l (r.drop i none)
  | bk E => exact fun σ' F' H' e l r => h _ F' H' e l (r.drop i none)
  | ct E => exact fun σ' F' H' e l r => h _ F' H' e l (r.drop i none)
  | rt d => exact h
theorem wish_of (hm : ∀ k j z b, l[j]? = some z → mt k j = some b → PySem.W.exmOne X.K (C k) z.1 = some b) {F0 F : Fz} {H0 H : Hp} {σ : L2.St} {E : En} {D0 : Ends} {k : Nat} {v : Option D} {d : Option Addr} (e : Ext F0 H0 F H) (r : RelE X.K (B0 H0) F H σ E) (xv : XV X.K F H v d) :
    ∀ (m : List (Value × Nat × SuV)) (j : Nat), l.drop j = m → (hdlV mt k v j (m.map (·.2)) E).all (Post X.K F0 H0 F D0) → wMany X.K W0 D0 (m.map fun z => (z.1, asT z.2.1 (tSuV X.K C z.2.1 z.2.2))) (C k) d σ H
  | [], _, _, q => q.elim
  | (c, i, sm) :: m, j, hj, q => by
    have hlt : j < l.length := by
      by_cases z : j < l.length
      · exact z
      · rw [List.drop_eq_nil_of_le (by omega)] at hj; cases hj
    have hz : l[j]? = some (c, i, sm) := by
      have := List.drop_eq_getElem_cons hlt
      rw [hj] at this
      rw [List.getElem?_eq_getElem hlt]
      exact congrArg some (List.cons.inj this).1.symm
    have hd : l.drop (j + 1) = m := by
      have := List.drop_eq_getElem_cons hlt
      rw [hj] at this
      exact (List.cons.inj this).2.symm
    have q : (match mt k j with
      | some true => if i < E.length then (sm k v (E.set i none)).bind fun o => leaf (offO i o) else fail
      | some false => hdlV mt k v (j + 1) (m.map (·.2)) E
      | none => fail : Tree Out).all (Post X.K F0 H0 F D0) := q
    cases hb : mt k j with
    | none => rw [hb] at q; exact q.elim
    | some b =>
      rw [hb] at q
      refine ⟨b, hm k j _ b hz hb, fun hy a na => ?_, fun hn => ?_⟩
      · subst hy
        by_cases hi : i < E.length
        · have q : (if i < E.length then (sm k v (E.set i none)).bind fun o => leaf (offO i o) else fail : Tree Out).all (Post X.K F0 H0 F D0) := q
          rw [if_pos hi] at q
          exact ⟨k, v, F0, H0, F, E.set i none, rfl, xv, List.getElem?_set_self (by rw [r.len]; exact hi), e, r.drop i _, Tree.all_mono (fun o h => post_off h) (Tree.all_bind.mp q)⟩
        · have q : (if i < E.length then (sm k v (E.set i none)).bind fun o => leaf (offO i o) else fail : Tree Out).all (Post X.K F0 H0 F D0) := q
          rw [if_neg hi] at q
          exact q.elim
      · subst hn
        exact wish_of hm e r xv m (j + 1) hd q
theorem s_tryV {k i0 : Nat} {a : Str} {cfs : List (En → Tree (Res D))} {p1 p2 p3 pos : Pos} {h1 : ExceptHandler} {hds : List ExceptHandler} (estk : X.stack = X.env :: X.outer) (efr : X.env.frame = some X.env.locals) (ndN : X.N.Nodup) (tk0 : L2N.Takes X W0)
    (hv : ∀ (q : List (Addr × Obj)) (xe : Value → Shared → Prop), PE (X.tr q xe) (.Name a p1) (tVar i0)) (ok : ∀ n cf, cfs[n]? = some cf → CloOk X.prog X.w X.K X.mg X.base k C n cf) (hr : Room (k + 1) X.A) (hk : HdsV X C (h1 :: hds) l)
    (hm : ∀ k j z b, l[j]? = some z → mt k j = some b → PySem.W.exmOne X.K (C k) z.1 = some b)
    (hs : ∀ (q : List (Addr × Obj)) (xe : Value → Shared → Prop), swapsWith (.Call (.Name a p1) [] [] p2) none p3.line (X.tr q xe).env = pure false := by intros; rfl) :
    SS X (.Try [.Expr (.Call (.Name a p1) [] [] p2) p3] (h1 :: hds) [] [] pos) (oTryV (mClo i0 cfs) mt (l.map (·.2))) := by
  refine ⟨PS.weak (ps_tryA (tb := fun W => tDrop (tVW X.K C W (mClo i0 cfs))) estk efr ndN tk0 (fun W q xe tk _ => pss_one (ps_expr (pe_clo (X := X.tr q xe) (W := W) (hv q xe) ok tk hr) (hs q xe))) hk.hds) fun D0 σ H ⟨F0, H0, F, E, e, r, q⟩ => ?_⟩
  refine ⟨B0 H0, F, E, e.good, r, Tree.all_mono (fun o ko => ?_) (Tree.all_bind.mp q)⟩
  cases o with
  | ok d => exact fun v F' H' e' rv => (show Post X.K F0 H0 F D0 (.nx E) from ko) σ F' H' (e.trans e') e'.le (r.ext e')
  | ex k v => exact fun F' H' d e' xv => wish_of hm (e.trans e') (r.ext e') xv l 0 rfl (Tree.all_mono (fun o h => h.le e'.le) (show (hdlV mt k v 0 (l.map (·.2)) E).all _ from ko))
end
end R

set_option Elab.async false
set_option linter.all false
set_option maxRecDepth 100000
set_option maxHeartbeats 2000000
/-! suites of except clauses that look at e.value -/
namespace R
open PySem PySem.Spec PyProof.Rows L2
open Tree (leaf fail)
abbrev SuE := Nat → Option D → En → Tree D
abbrev SuL := Nat → Option D → En → Tree (List D)
theorem XV.ext {K : PySem.W.Frag} {F F' : Fz} {H H' : Hp} {v : Option D} {d : Option Addr} (g : Good F H) (e : Ext F H F' H') (x : XV K F H v d) : XV K F' H' v d := by
  cases v with
  | none => exact x
  | some v =>
    obtain ⟨dd, w, rfl, h, r⟩ := x
    refine ⟨dd, w, rfl, e.keep dd _ h (fun t => ?_) (fun ps z => by cases z), r.mono e.le⟩
    obtain ⟨_, p, q, hp, _⟩ := g.pot dd t
    rw [h] at hp; cases hp
/-- what is known in a suite: the exception's class and value, the name's slot -/
def InSu (K : PySem.W.Frag) (C : Nat → Value) (i : Nat) (a : Addr) (cls : Value) (d : Option Addr) (σ : L2.St) (F : Fz) (H : Hp) (k : Nat) (v : Option D) : Prop := cls = C k ∧ XV K F H v d ∧ σ[i]? = some (some (.ref a))
def tXe (K : PySem.W.Frag) (C : Nat → Value) (i : Nat) (m : SuE) (a : Addr) (cls : Value) (d : Option Addr) : TE := fun σ H Q => ∃ k v B F E, InSu K C i a cls d σ F H k v ∧ Good F H ∧ RelE K B F H σ E ∧ (m k v E).all fun r => ∀ w F' H', Ext F H F' H' → Rep K F' w r → Q w H'
def tXa (K : PySem.W.Frag) (C : Nat → Value) (i : Nat) (m : SuL) (a : Addr) (cls : Value) (d : Option Addr) : TA := fun σ H Q => ∃ k v B F E, InSu K C i a cls d σ F H k v ∧ Good F H ∧ RelE K B F H σ E ∧ (m k v E).all fun rs => ∀ ws F' H', Ext F H F' H' → Reps K F' ws rs → Q ws H'
structure SXe (X : Cx) (C : Nat → Value) (i : Nat) (e : Expr) (m : SuE) : Prop where
  pe : ∀ (a : Addr) (ob : Obj) (cls : Value) (d : Option Addr) (q : List (Addr × Obj)), L2N.Zn cls d ob → (∃ fs, ob.data = .fields fs) → PE (X.suite a ((a, ob) :: q)) e (tXe X.K C i m a cls d)
structure SXa (X : Cx) (C : Nat → Value) (i : Nat) (es : List Expr) (m : SuL) : Prop where
  pa : ∀ (a : Addr) (ob : Obj) (cls : Value) (d : Option Addr) (q : List (Addr × Obj)), L2N.Zn cls d ob → (∃ fs, ob.data = .fields fs) → PA (X.suite a ((a, ob) :: q)) es (tXa X.K C i m a cls d)
section
variable {X : Cx} {C : Nat → Value} {i : Nat} {e : Expr} {es : List Expr} {m : SuE} {ms : SuL} {pos : Pos}
theorem sx_of {me : En → Tree D} (h : ∀ (a : Addr) (q : List (Addr × Obj)), SE (X.suite a q) e me) : SXe X C i e (fun _ _ => me) :=
  ⟨fun a ob cls d q _ _ => PE.weak (h a _).pe fun σ H Q ⟨k, v, B, F, E, _, g, rl, q⟩ => ⟨B, F, E, g, rl, q⟩⟩
theorem sxa_nil : SXa X C i [] (fun _ _ => aNil) := ⟨fun a ob cls d q _ _ => PA.weak pa_nil fun σ H Q ⟨k, v, B, F, E, _, g, rl, q⟩ => q [] F H (Ext.refl g) .nil⟩
theorem sxa_cons (ha : SXe X C i e m) (hr : SXa X C i es ms) (hs : ∀ (a : Addr) (q : List (Addr × Obj)), starEach (e :: es) (X.suite a q).env = (false, eval e (X.suite a q).env) :: starEach es (X.suite a q).env := by intros; rfl) : SXa X C i (e :: es) (fun k v E => (m k v E).bind fun d => (ms k v E).bind fun ds => leaf (d :: ds)) := by
  refine ⟨fun a ob cls d q hz hf => PA.weak (pa_cons (ha.pe a ob cls d q hz hf) (hr.pa a ob cls d q hz hf) (hs a _)) fun σ H Q ⟨k, v, B, F, E, ⟨i1, i2, i3⟩, g, rl, q⟩ => ?_⟩
  refine ⟨k, v, B, F, E, ⟨i1, i2, i3⟩, g, rl, Tree.all_mono (fun d1 h1 w F1 H1 e1 p1 => ?_) (Tree.all_bind.mp q)⟩
  refine ⟨k, v, B, F1, E, ⟨i1, i2.ext g e1, i3⟩, e1.good, rl.ext e1, Tree.all_mono (fun ds h2 ws F2 H2 e2 p2 => ?_) (Tree.all_bind.mp h1)⟩
  exact h2 (w :: ws) F2 H2 (e1.trans e2) (.cons (p1.mono e2.le) p2)
/-- repr(e.value); nv: the classes below it have a value -/
def mReprV (nv : Nat) : SuE := fun k v _ => match v with
  | some d => if k < nv then fRepr [d] else fail
  | none => fail
theorem sx_repr {nv : Nat} {n : Str} {p p1 p2 : Pos} (hG : Gd X.A) (hu : X.A.units + 64 < cLine) (hX : ∀ k, k < nv → ∃ CA, C k = .ref CA ∧ XfC X.K CA ∧ PySem.W.findIn X.K (.ref CA) "value" = some none) (hg : Gl X "repr") (hm : X.mg "repr" = none)
    (hv : ∀ (a : Addr) (q : List (Addr × Obj)), PE (X.suite a q) (.Name n p1) (tVar i)) (hb : ∀ (a : Addr) (q : List (Addr × Obj)), attributeBase (.Name n p1) "value" (X.suite a q).env (eval (.Name n p1) (X.suite a q).env) = eval (.Name n p1) (X.suite a q).env := by intros; rfl)
    (he : ∀ (a : Addr) (q : List (Addr × Obj)), starEach ((.Attribute (.Name n p1) "value" p2) :: []) (X.suite a q).env = (false, eval (.Attribute (.Name n p1) "value" p2) (X.suite a q).env) :: starEach [] (X.suite a q).env := by intros; rfl)
    (hpl : ∀ (a : Addr) (q : List (Addr × Obj)), (backTo pos (starEach [] (X.suite a q).env)).any (·.1) = false := by intros; rfl) :
    SXe X C i (.Call (.Name "repr" p) [.Attribute (.Name n p1) "value" p2] [] pos) (mReprV nv) := by
  refine ⟨fun a ob cls d q hz hf => ?_⟩
  have pv : PE (X.suite a ((a, ob) :: q)) (.Attribute (.Name n p1) "value" p2) (fun σ H Q => ∃ (CA dd : Addr) (w : V), cls = .ref CA ∧ XfC X.K CA ∧ PySem.W.findIn X.K (.ref CA) "value" = some none ∧ d = some dd ∧ H dd = some (.xd [("value", w)]) ∧ σ[i]? = some (some (.ref a)) ∧ Q w H) := by
    refine ⟨fun pins s σ H Q I ⟨CA, dd, w, h1, h2, h3, h4, h5, h6, h7⟩ => ?_⟩
    exact (pe_xf (C := CA) h2 h3 hz.zc hf (hv a ((a, ob) :: q)) (hb a ((a, ob) :: q))).run pins s σ H Q I ⟨.ref a, h6, rfl, h1, dd, [("value", w)], w, h4, h5, rfl, h7⟩
  refine PE.weak (pe_callB (cr_repr (X := X.suite a ((a, ob) :: q)) hG hu) hg hm (by decide +kernel) (pa_cons pv pa_nil (he a _)) (by decide) (by decide) (he a _) (hpl a _)) fun σ H Q ⟨k, v, B, F, E, ⟨i1, i2, i3⟩, g, rl, q⟩ => ?_
  cases v with
  | none => exact False.elim q
  | some v =>
    by_cases hk : k < nv
    · have q : (if k < nv then fRepr [v] else fail : Tree D).all _ := q
      rw [if_pos hk] at q
      obtain ⟨CA, c1, c2, c3⟩ := hX k hk
      obtain ⟨dd, w, h1, h2, h3⟩ := i2
      exact ⟨CA, dd, w, i1.trans c1, c2, c3, h1, h2, i3, f1_repr F H [w] [v] Q g (.cons (.rep h3) .nil) q⟩
    · have q : (if k < nv then fRepr [v] else fail : Tree D).all _ := q
      rw [if_neg hk] at q
      exact q.elim
/-- return [..] -/
theorem su_ret {p2 : Pos} (h : SXa X C i es ms) : SuOk X [.Return (some (.List es p2)) pos] (tSuV X.K C i (fun k v E => (ms k v E).bind fun ds => lineOk ds.length (leaf (.rt (.lst ds))))) := by
  refine fun a ob cls d q hz hf => pss_one (PS.weak (ps_ret (pe_lst (h.pa a ob cls d q hz hf))) fun D0 σ H ⟨k, v, F0, H0, F, E, i1, i2, i3, e, r, q⟩ => ?_)
  refine ⟨k, v, B0 H0, F, E, ⟨i1, i2, i3⟩, e.good, r, Tree.all_mono (fun ds kq ws F1 H1 e1 p1 => ?_) (Tree.all_bind.mp q)⟩
  obtain ⟨hl, kq⟩ := lineOk_all kq
  refine ⟨by rw [p1.length]; exact hl, fun p hp => ?_⟩
  exact (show Post X.K F0 H0 F D0 (.rt (.lst ds)) from kq) (.ref p) (F1.add p (.lst ws)) _ ((e.trans e1).trans (Ext.addNew e1.good hp)) (e1.le.trans (Fz.le_add (e1.good.free hp).1)) (.lst upd_same (p1.mono (Fz.le_add (e1.good.free hp).1)))
/-- x, y, z = .. -/
theorem su_par3 {st : Stmt} {i1 i2 i3 : Nat} (h : SXa X C i es ms) (hp : ∀ (a : Addr) (q : List (Addr × Obj)) (ta : TA), PA (X.suite a q) es ta → PS (X.suite a q) st (tPar3 i1 i2 i3 ta)) :
    SuOk X [st] (tSuV X.K C i (fun k v E => (ms k v E).bind fun ds => match ds with
      | [d1, d2, d3] => leaf (.nx (((E.put i1 d1).put i2 d2).put i3 d3))
      | _ => fail)) := by
  refine fun a ob cls d q hz hf => pss_one (PS.weak (hp a _ _ (h.pa a ob cls d q hz hf)) fun D0 σ H ⟨k, v, F0, H0, F, E, j1, j2, j3, e, r, q⟩ => ?_)
  refine ⟨k, v, B0 H0, F, E, ⟨j1, j2, j3⟩, e.good, r, Tree.all_mono (fun ds kq ws F1 H1 e1 p1 => ?_) (Tree.all_bind.mp q)⟩
  cases p1 with
  | nil => exact False.elim kq
  | cons a1 p1 =>
    cases p1 with
    | nil => exact False.elim kq
    | cons a2 p1 =>
      cases p1 with
      | nil => exact False.elim kq
      | cons a3 p1 =>
        cases p1 with
        | nil => exact ⟨_, _, _, rfl, (show Post X.K F0 H0 F D0 (.nx _) from kq) _ F1 H1 (e.trans e1) e1.le ((((r.ext e1).put i1 a1).put i2 a2).put i3 a3)⟩
        | cons _ _ => exact False.elim kq
end
end R

set_option Elab.async false
set_option linter.all false
set_option maxRecDepth 100000
set_option maxHeartbeats 2000000
/-! a lambda is made and known from then on -/
namespace R
open PySem PySem.Spec PyProof.Rows L2 LamX
section
variable {X : Cx} {pins : List (Addr × Obj)} {σ : L2.St} {H : Hp} {s : Shared} {h' : Heap} {tk : Nat} {T : List (Addr × Str)} {P c : Addr} {q : Str} {ps : Array Value} {pos : Pos}
/-- the object pushed last is known -/
theorem mk_known {ob : Obj} (hf : ob.isFreed = false) (J : Inv X pins σ H { s with heap := h', toks := tk }) : Inv X pins σ (upd H h'.objs.size (uT h'.objs.size ob)) { s with heap := h'.push ob, toks := tk } :=
  J.laid (t' := tk) (fun _ _ z => Heap.get?_push_of_some _ z) (Nat.le_refl _) (uT_ok (Heap.get?_push_size _ hf))
abbrev row3 (pos : Pos) (c : Addr) : Array Value := #[rawInt pos.line, rawInt pos.col, .ref c]
/-- tables with one row more -/
abbrev moreT (H : Hp) (P c : Addr) (q : Str) (ps : Array Value) (pos : Pos) : Hp := upd (upd H P (.tbl (ps ++ row3 pos c))) c (CodeO c q)
theorem more_ne {b : Addr} (b1 : b ≠ c) (b2 : b ≠ P) : moreT H P c q ps pos b = H b := (upd_ne b1).trans (upd_ne b2)
theorem more_P (h : P ≠ c) : moreT H P c q ps pos P = some (.tbl (ps ++ row3 pos c)) := (upd_ne h).trans upd_same
theorem more_ext (hP : H P = some (.tbl ps)) (n : H c = none) : ExtN H (moreT H P c q ps pos) := by
  intro b o hb nt
  have b1 : b ≠ c := ne_of_none hb n
  have b2 : b ≠ P := by
    rintro rfl
    rw [hb] at hP
    exact nt ps (Option.some.inj hP)
  exact (more_ne b1 b2).trans hb
theorem more_tabs (hT : Tabs T H) (hP : H P = some (.tbl ps)) (n : H c = none) (hu : ∀ p ∈ T, p.1 = P → p.2 = q) : Tabs T (moreT H P c q ps pos) := by
  have old : ∀ {d : Addr} {r : Str}, H d = some (CodeO d r) → moreT H P c q ps pos d = some (CodeO d r) := fun {d r} z => more_ext hP n d _ z codeO_ne
  rintro ⟨P2, q2⟩ hp
  obtain ⟨qs, t1, t2, t3⟩ := hT _ hp
  by_cases same : P2 = P
  · subst same
    have eq : q2 = q := hu _ hp rfl
    subst eq
    rw [hP] at t1
    cases t1
    have el : (ps ++ row3 pos c).toList = ps.toList ++ [rawInt pos.line, rawInt pos.col, .ref c] := by simp
    refine ⟨ps ++ row3 pos c, ?_, ?_, ?_⟩
    · exact more_P (ne_of_none hP n)
    · rw [el]; exact TriplesOk_snoc _ _ _ _ t2
    · intro p2 cv hcv
      rw [el] at hcv
      rcases among_app _ t2 hcv with z | z
      · obtain ⟨d, d1, d2⟩ := t3 p2 cv z
        exact ⟨d, d1, old d2⟩
      · exact ⟨c, z, upd_same⟩
  · refine ⟨qs, ?_, t2, ?_⟩
    · exact (more_ne (ne_of_none t1 n) same).trans t1
    · intro p2 cv hcv
      obtain ⟨d, d1, d2⟩ := t3 p2 cv hcv
      exact ⟨d, d1, old d2⟩
/-- what is known of a lambda just made -/
structure Made (X : Cx) (H H2 : Hp) (f : Addr) (x : CloT) : Prop where
  ext : ExtN H H2
  new : H f = none
  obj : ∃ (pm ctv : Value) (d : Addr), H2 f = some (uT f (PySem.W.kla_obj "<lambda>" x.q x.params x.body x.scope (cloFrom X.env.cells x.scope.names []) pm d ctv)) ∧ H2 d = some (CodeO d x.q)
theorem lam_known {x : CloT} {E : Value → Shared → Prop} {Q : Value → Shared → Prop} (I : Inv X pins σ H s) (tb : TabB X.base X.mg c P) (hcode : X.env.code = .ref c) (hq : x.q = X.env.qual ++ "<lambda>") (hm : (P, x.q) ∈ T) (hu : ∀ p ∈ T, p.1 = P → p.2 = x.q) (hT : Tabs T H)
    (hdef : defaultsOf x.params X.env = ([], [])) (hfree : ∀ y ∈ x.scope.names, y.2 = .free → ∃ d, X.env.cells.lookup y.1 = some d)
    (k : ∀ (f : Addr) (H2 : Hp) (s' : Shared), Inv X pins σ H2 s' → Tabs T H2 → Made X H H2 f x → Q (.ref f) s') : wpAny (model X.prog X.w) X.A (eval (.Lambda x.params x.body x.scope pos) X.env) Q E s := by
  obtain ⟨qs, t1, t2, t3⟩ := hT _ hm
  have bm : s.heap.BuiltinsAt X.mg P := tb.bm.keeps I.bk
  have hp : s.heap.get? P = some { cls := .none, data := .fields qs } := I.hok P _ t1
  have ng : s.heap.Ns mainGlobals X.mg := I.mod.glob.keeps I.bk
  have cdk := tb.code.keeps I.bk
  have clo := closure_ok hfree
  refine PySem.W.kla_eval hdef ?_
  rw [← hq]
  cases hc : codeAmong pos qs.toList with
  | none =>
    refine PySem.W.kla_makeFunction (ps := qs) (P := P) (c := c) (mg := X.mg) clo I.ok.glob ng hcode cdk hp t2 hc tb.gP bm fun d ctv h1 tk hx ge lt rec tbl => ?_
    obtain ⟨d2, od, vs, tok, e2, g1, g2, g3⟩ := rec
    cases e2
    have nd : H d = none := I.hok.fresh ge
    have J := inv_table (q := x.q) (t' := tk) (h' := h1) (more := row3 pos d) I t1 (fun b o hb z => hx b o hb z) tbl ge ⟨od, vs, tok, g1, g2, g3⟩
    have nf : moreT H P d x.q qs pos h1.objs.size = none := J.hok.fresh (Nat.le_refl _)
    have J2 := mk_known (ob := PySem.W.kla_obj "<lambda>" x.q x.params x.body x.scope (cloFrom X.env.cells x.scope.names []) ((X.mg "__name__").getD .none) d ctv) rfl J
    refine k _ _ _ J2 ((more_tabs hT t1 nd hu).ext fun b o z => by rw [upd_ne (ne_of_none z nf)]; exact z) ⟨fun b o z nt => ?_, ?_, _, ctv, d, upd_same, ?_⟩
    · have z2 := more_ext (q := x.q) (pos := pos) t1 nd b o z nt
      rw [upd_ne (ne_of_none z2 nf)]; exact z2
    · exact I.hok.fresh (Nat.le_trans ge (Nat.le_of_lt lt))
    · rw [upd_ne (Nat.ne_of_lt lt)]; exact upd_same
  | some cv =>
    obtain ⟨d, e, hd⟩ := t3 pos cv hc
    subst e
    refine PySem.W.kla_makeFunctionHit (ps := qs) (P := P) (c := c) (mg := X.mg) clo I.ok.glob ng hcode cdk hp t2 hc bm fun ctv h1 tk hx _ => ?_
    have J : Inv X pins σ H { s with heap := h1, toks := tk } := I.kept hx
    have nf : H h1.objs.size = none := J.hok.fresh (Nat.le_refl _)
    have J2 := mk_known (ob := PySem.W.kla_obj "<lambda>" x.q x.params x.body x.scope (cloFrom X.env.cells x.scope.names []) ((X.mg "__name__").getD .none) d ctv) rfl J
    exact k _ _ _ J2 (hT.ext fun b o z => by rw [upd_ne (ne_of_none z nf)]; exact z) ⟨fun b o z _ => by rw [upd_ne (ne_of_none z nf)]; exact z, nf, _, ctv, d, upd_same, by rw [upd_ne (ne_of_none hd nf)]; exact hd⟩
end
end R

set_option Elab.async false
set_option linter.all false
set_option maxRecDepth 100000
set_option maxHeartbeats 2000000
/-! behind a call for which the frame's cells were tracked -/
namespace R
open PySem PySem.Spec PyProof.Rows L2
section
variable {K : PySem.W.Frag} {B : Addr → Prop} {F0 F F1 F2 : Fz} {H0 H H2 : Hp} {t : TS1} {σ : L2.St} {E : En}
/-- the still things stay as they were before the call -/
theorem Ext.rollT (a : Ext F0 H0 F H) (un : ∀ b o, t b = some o → H b = none) (b : Ext F1 (Trk t H) F2 H2) (inn : TIn t H2) (hT : ∀ c, F.T c ↔ F1.T c) : Ext F0 H0 F (Unt t H2) := by
  have keep : ∀ c o, H c = some o → ¬ F.T c → (∀ ps, o ≠ .tbl ps) → Unt t H2 c = some o := fun c o h nt ntb => by
    have tc : t c = none := by
      cases q : t c with
      | none => rfl
      | some o' => rw [un c o' q] at h; cases h
    rw [unt_none tc]
    exact b.keep c o (by rw [trk_none tc]; exact h) (fun z => nt ((hT c).mpr z)) ntb
  refine ⟨⟨fun c o h => ?_, fun c tc => ?_, a.good.nt, fun p hp => ?_, fun f o h q ps bo sc cl pm c ctv e => ?_⟩, a.mono, a.monoT, fun c o h nt ntb => ?_, a.fresh⟩
  · have h1 := a.good.sub c o h
    refine keep c o h1 (fun z => ?_) (fun ps z => a.good.nt c ps (z ▸ h))
    rw [(a.good.pot c z).1] at h
    cases h
  · obtain ⟨n, _, _, hl, _⟩ := a.good.pot c tc
    have tn : t c = none := by
      cases q : t c with
      | none => rfl
      | some o' => rw [un c o' q] at hl; cases hl
    have := (b.good.pot c (b.monoT c ((hT c).mp tc))).2
    exact ⟨n, by rw [unt_none tn]; exact this⟩
  · obtain ⟨ps, a1, a2, a3⟩ := b.good.tab p hp
    refine ⟨ps, by rw [unt_none (inn.nn a1 fun o z => by cases z)]; exact a1, a2, fun pos cv hcv => ?_⟩
    obtain ⟨c0, e1, e2⟩ := a3 pos cv hcv
    exact ⟨c0, e1, by rw [unt_none (inn.nn e2 fun o z => by unfold LamX.CodeO at z; cases z)]; exact e2⟩
  · have h1 := a.good.cod f o h q ps bo sc cl pm c ctv e
    refine keep c _ h1 (fun z => ?_) (codeO_ext rfl).2
    obtain ⟨_, _, _, hl, _⟩ := a.good.pot c z
    rw [h1] at hl
    exact (codeO_ext (Option.some.inj hl).symm).1 _ rfl
  · by_cases z : F.T c
    · refine False.elim ?_
      have h1 := a.keep c o h nt ntb
      obtain ⟨n, p, q, hl, _⟩ := a.good.pot c z
      rcases a.fresh c (.inr z) with k | k | k
      · cases k2 : F0.P c with
        | none => exact k k2
        | some u => have := a.mono c u k2; rw [n] at this; cases this
      · exact nt k
      · obtain ⟨ps, k2⟩ := k o h; exact ntb ps k2
    · exact keep c o (a.keep c o h nt ntb) z ntb
/-- the frame's values stay -/
theorem RelE.rollT (r : RelE K B F H σ E) (un : ∀ b o, t b = some o → H b = none) (b : Ext F1 (Trk t H) F2 H2) (hT : ∀ c, F.T c ↔ F1.T c) : RelE K B F (Unt t H2) σ E where
  len := r.len
  val := r.val
  own := fun i d h => by
    obtain ⟨a, xs, ds, h1, h2, h3, h4, h5, h6, h7⟩ := r.own i d h
    have tc : t a = none := by
      cases q : t a with
      | none => rfl
      | some o' => rw [un a o' q] at h3; cases h3
    exact ⟨a, xs, ds, h1, h2, by rw [unt_none tc]; exact b.keep a _ (by rw [trk_none tc]; exact h3) (fun z => h6 ((hT a).mpr z)) (fun ps z => by cases z), h4, h5, h6, h7⟩
  dist := r.dist
end
end R

set_option Elab.async false
set_option linter.all false
set_option maxRecDepth 100000
set_option maxHeartbeats 2000000
/-! a call while the frame's cells are tracked -/
namespace R
open PySem PySem.Spec PyProof.Rows L2
open Tree (leaf fail)
open Classical in
/-- the frame's cells, by their objects -/
noncomputable def cellT (X : Cx) (h : Heap) : TS1 := fun b => if (∃ y, X.env.cells.lookup y = some b) then h.get? b else none
section
variable {X : Cx} {pins : List (Addr × Obj)} {σ : L2.St} {H : Hp} {s : Shared}
theorem cellT_in {h : Heap} {b : Addr} {o : Obj} (e : cellT X h b = some o) : (∃ y, X.env.cells.lookup y = some b) ∧ h.get? b = some o := by
  unfold cellT at e
  split at e
  · rename_i z; exact ⟨z, e⟩
  · cases e
theorem cellT_at {h : Heap} {y : Str} {b : Addr} (e : X.env.cells.lookup y = some b) : cellT X h b = h.get? b := by
  unfold cellT
  rw [if_pos ⟨y, e⟩]
theorem cellT_ok (I : Inv X pins σ H s) : TOk (cellT X s.heap) s.heap H := ⟨fun b o e => (cellT_in e).2, fun b o e => by
  obtain ⟨⟨y, hy⟩, _⟩ := cellT_in e
  exact I.freeC y b hy⟩
theorem cellT_none {h : Heap} {b : Addr} (n : ∀ y, X.env.cells.lookup y ≠ some b) : cellT X h b = none := by
  cases q : cellT X h b with
  | none => rfl
  | some o =>
    obtain ⟨⟨y, hy⟩, _⟩ := cellT_in q
    exact absurd hy (n y)
theorem cellT_base (I : Inv X pins σ H s) (fn : ∀ y, X.fn y = true) : ∀ b o, X.base.get? b = some o → cellT X s.heap b = none := fun b o e => cellT_none fun y hy => by
  have h1 := I.ok.cab y b (fn y) hy
  have h2 := Heap.lt_size (I.ok.bs b o e).1
  exact absurd h2 (Nat.not_lt.mpr h1)
theorem cellT_fr (I : Inv X pins σ H s) (fn : ∀ y, X.fn y = true) : ∀ b ∈ frs X.stack, cellT X s.heap b = none := fun b hb => cellT_none fun y hy => by
  rcases List.mem_cons.mp (I.stkSub b hb) with e | hb
  · subst e
    obtain ⟨v, o, ho, hd⟩ := I.cell y _ hy
    obtain ⟨m, ⟨o2, es, ep, h2, d2, _⟩, _⟩ := I.loc
    rw [ho] at h2
    cases h2
    rw [hd] at d2
    cases d2
  · have h1 := I.ok.cab y b (fn y) hy
    obtain ⟨_, o, ho, _⟩ := I.ok.funs.mem hb
    have h2 := Heap.lt_size ho
    exact absurd h2 (Nat.not_lt.mpr h1)
theorem cellT_data (I : Inv X pins σ H s) : ∀ b o, cellT X s.heap b = some o → ∃ v, o.data = .cell v := fun b o e => by
  obtain ⟨⟨y, hy⟩, ho⟩ := cellT_in e
  obtain ⟨v, o2, h2, hd⟩ := I.cell y b hy
  rw [ho] at h2
  cases h2
  exact ⟨v, hd⟩
/-- what the tracked cells hold -/
def CaptOk (X : Cx) (σ : L2.St) (t : TS1) : Prop := ∀ (cl : List (Str × Addr)) (fr : List Str) (js : List Nat), NdefX.Caps X cl fr js → ∀ (i : Nat) (y : Str) (j : Nat) (v : V), fr[i]? = some y → js[i]? = some j → σ[j]? = some (some v) → ∃ (c : Addr) (o : Obj) (u : Value), cl.lookup y = some c ∧ t c = some o ∧ o.data = .cell (some u) ∧ L2.RelV v u
theorem capt_of (I : Inv X pins σ H s) : CaptOk X σ (cellT X s.heap) := fun cl fr js cp i y j v hy hj hv => by
  have C := NdefX.cells_of I cp
  obtain ⟨c, hc, hw⟩ := C.has i y hy
  have ew : (js.map (NdefX.slotAt σ))[i]? = some (some v) := by
    rw [List.getElem?_map, hj]
    exact congrArg some (NdefX.slotAt_of hv)
  obtain ⟨u, r, o, ho, hd⟩ := hw v ew
  exact ⟨c, o, u, hc, by rw [cellT_at (cp.sub y c hc)]; exact ho, hd, r⟩
/-- g(..), the cells tracked meanwhile -/
def tCap (X : Cx) (sp : Sp) (ta : TA) : TE := fun σ H Q => ta σ H fun vs H1 => ∀ t, CaptOk X σ t → (∀ b o, t b = some o → H1 b = none) → (∀ b o, t b = some o → ∃ v, o.data = .cell v) → sp vs (Trk t H1) (fun v H2 => TIn t H2 → Q v (Unt t H2)) (fun _ _ _ => False)
theorem pe_cap {g : Addr} {fd : FuncData} {ps : List Str} {sp : Sp} {k : Nat} {x : Str} {e : Expr} {es : List Expr} {ta : TA} {p pos : Pos} (F : FnG X.prog X.w X.K X.mg X.base k g fd ps sp) (hG : Gd X.A) (hr : Room k X.A) (fn : ∀ y, X.fn y = true) (hg : Gl X x) (hm : X.mg x = some (.ref g)) (kp : PySem.W.keepIn X.K (.ref g) = true) (b : Binds X.K fd ps [])
    (ha : PA X (e :: es) ta) (hdb : (x == ("__debug__" : Str)) = false := by decide) (he : starEach (e :: es) X.env = (false, eval e X.env) :: starEach es X.env := by rfl) (hpl : (backTo pos (starEach es X.env)).any (·.1) = false := by rfl) :
    PE X (.Call (.Name x p) (e :: es) [] pos) (tCap X sp ta) := by
  refine ⟨fun pins s σ H Q I h => ?_⟩
  refine wpAny_Call_Name_kw (ld_glob I hg hm ?_ hdb)
  refine PySem.W.callWith_K (h₀ := X.base) I.ok.mod.kin kp (thn (ha.run pos pins s σ H _ I h) fun us s1 ⟨vs, H1, I1, r, q⟩ => ⟨I1.kIn, ?_⟩) he hpl
  have tok := cellT_ok I1
  have q1 := q _ (capt_of I1) tok.un (cellT_data I1)
  have e1 := env0_track I1.env0 tok (cellT_fr I1 fn) (cellT_base I1 fn)
  have hl : (us ++ []).length = ps.length := by rw [List.append_nil, ← r.length]; exact F.many _ _ _ _ q1
  have bd := b s1 us I1.kIn hl
  rw [List.append_nil] at bd
  refine wpAny_call (codeAny_mono (F.goes X.A X.stack s1 _ ⟨us, []⟩ us vs _ _ hG hr e1 bd r q1) fun res s' hq => ?_)
  cases res with
  | error er => exact False.elim hq
  | ok fl =>
    cases fl with
    | ret u => exact I1.after (ce_imp (ce_track tok (cellT_fr I1 fn) hq) fun v H' ⟨H2, e2, inn, q2⟩ => by subst e2; exact q2 inn)
    | next => exact False.elim hq
    | brk => exact False.elim hq
    | cont => exact False.elim hq
end
end R

set_option Elab.async false
set_option linter.all false
set_option maxRecDepth 100000
set_option maxHeartbeats 2000000
/-! lists of lambdas of the running frame, captured for a call -/
namespace R
open PySem PySem.Spec PyProof.Rows L2
open Tree (leaf fail)
inductive Cl where
  | still (d : D) | loc (n : Nat) (js : List Nat)
def slotD (E : En) (j : Nat) : Option D := match E[j]? with
  | some (some ⟨false, d⟩) => some d
  | _ => none
def slotsD (E : En) : List Nat → Option (List D)
  | [] => some []
  | j :: js => match slotD E j, slotsD E js with
    | some d, some ds => some (d :: ds)
    | _, _ => none
def captD (E : En) : Cl → Option D
  | .still d => some d
  | .loc n js => (slotsD E js).map (.clo n)
def captL (E : En) : List Cl → Option (List D)
  | [] => some []
  | c :: cs => match captD E c, captL E cs with
    | some d, some ds => some (d :: ds)
    | _, _ => none
/-- a lambda of the running frame -/
structure LocC (X : Cx) (F : Fz) (H : Hp) (f : Addr) (n : Nat) (js : List Nat) : Prop where
  ex : ∃ (x : CloT) (pm ctv : Value) (c : Addr) (cs : List Addr), CLOS[n]? = some x ∧ H f = some (uT f (PySem.W.kla_obj "<lambda>" x.q x.params x.body x.scope (x.ns.zip cs) pm c ctv)) ∧ H c = some (LamX.CodeO c x.q) ∧ x.ns.length = cs.length ∧ cs.Nodup ∧ x.ns.Nodup ∧ NdefX.Caps X (x.ns.zip cs) x.ns js
  un : F.P f = none
inductive RepC (K : PySem.W.Frag) (X : Cx) (F : Fz) (H : Hp) : V → Cl → Prop where
  | still {v : V} {d : D} : Rep K F v d → RepC K X F H v (.still d)
  | loc {f : Addr} {n : Nat} {js : List Nat} : LocC X F H f n js → RepC K X F H (.ref f) (.loc n js)
abbrev RepCs (K : PySem.W.Frag) (X : Cx) (F : Fz) (H : Hp) : List V → List Cl → Prop := Paired (RepC K X F H)
section
variable {K : PySem.W.Frag} {X : Cx} {B : Addr → Prop} {F : Fz} {H H1 : Hp} {t : TS1} {σ : L2.St} {E : En}
theorem slots_rep (r : RelE K B F H σ E) : ∀ (js : List Nat) (ds : List D), slotsD E js = some ds → ∃ vs : List V, Reps K F vs ds ∧ vs.length = js.length ∧ ∀ (i j : Nat) (v : V), js[i]? = some j → vs[i]? = some v → σ[j]? = some (some v)
  | [], ds, h => by cases h; exact ⟨[], .nil, rfl, fun i j v h => by simp at h⟩
  | j :: js, ds, h => by
    unfold slotsD at h
    cases h1 : slotD E j with
    | none => rw [h1] at h; cases h
    | some d =>
      cases h2 : slotsD E js with
      | none => rw [h1, h2] at h; cases h
      | some es =>
        rw [h1, h2] at h
        cases h
        obtain ⟨vs, k1, k2, k3⟩ := slots_rep r js es h2
        have e : E[j]? = some (some ⟨false, d⟩) := by
          unfold slotD at h1
          split at h1
          · rename_i d' e; cases h1; exact e
          · cases h1
        obtain ⟨v, s1, s2⟩ := r.val j d e
        refine ⟨v :: vs, .cons s2 k1, by simp [k2], fun i j' v' a b => ?_⟩
        cases i with
        | zero =>
          simp only [List.getElem?_cons_zero, Option.some.injEq] at a b
          subst a; subst b
          exact s1
        | succ i => exact k3 i j' v' (by simpa using a) (by simpa using b)
theorem trk_good (g : Good F H) (un : ∀ b o, t b = some o → H b = none) : Good F (Trk t H) := by
  have keep : ∀ {b : Addr} {o : HO}, H b = some o → Trk t H b = some o := fun {b o} h => by
    have tb : t b = none := by
      cases q : t b with
      | none => rfl
      | some o' => rw [un b o' q] at h; cases h
    rw [trk_none tb]; exact h
  refine ⟨fun b o h => keep (g.sub b o h), fun b tb => ?_, g.nt, fun p hp => ?_, fun f o h q ps b sc cl pm c ctv e => keep (g.cod f o h q ps b sc cl pm c ctv e)⟩
  · obtain ⟨n, p, q, h, r⟩ := g.pot b tb
    exact ⟨n, p, q, keep h, r⟩
  · obtain ⟨ps, a1, a2, a3⟩ := g.tab p hp
    refine ⟨ps, keep a1, a2, fun pos cv hcv => ?_⟩
    obtain ⟨c0, e1, e2⟩ := a3 pos cv hcv
    exact ⟨c0, e1, keep e2⟩
/-- more that stands still -/
def plusF (S : Addr → Option HO) (F : Fz) : Fz := ⟨fun b => match S b with
  | some o => some o
  | none => F.P b, F.T⟩
theorem plus_some {S : Addr → Option HO} {b : Addr} {o : HO} (h : S b = some o) : (plusF S F).P b = some o := by
  show (match S b with | some o => some o | none => F.P b) = _
  rw [h]
theorem plus_none {S : Addr → Option HO} {b : Addr} (h : S b = none) : (plusF S F).P b = F.P b := by
  show (match S b with | some o => some o | none => F.P b) = _
  rw [h]
theorem plus_good {S : Addr → Option HO} (g : Good F H1) (hS : ∀ b o, S b = some o → H1 b = some o ∧ F.P b = none ∧ ¬ F.T b ∧ (∀ ps, o ≠ .tbl ps) ∧ ∀ ob, o = uT b ob → CodOk H1 ob) : Good (plusF S F) H1 ∧ F.Le (plusF S F) := by
  refine ⟨⟨fun b o h => ?_, fun b tb => ?_, fun b ps h => ?_, g.tab, fun f o h => ?_⟩, ⟨fun b o h => ?_, fun _ h => h⟩⟩
  · cases q : S b with
    | some o' =>
      rw [plus_some q] at h
      cases h
      exact (hS b _ q).1
    | none => rw [plus_none q] at h; exact g.sub b o h
  · obtain ⟨n, r⟩ := g.pot b tb
    refine ⟨?_, r⟩
    cases q : S b with
    | some o' => exact absurd tb (hS b _ q).2.2.1
    | none => rw [plus_none q]; exact n
  · cases q : S b with
    | some o' =>
      rw [plus_some q] at h
      cases h
      exact (hS b _ q).2.2.2.1 ps rfl
    | none => rw [plus_none q] at h; exact g.nt b ps h
  · cases q : S f with
    | some o' =>
      rw [plus_some q] at h
      cases h
      exact (hS f _ q).2.2.2.2 o rfl
    | none => rw [plus_none q] at h; exact g.cod f o h
  · cases q : S b with
    | some o' => rw [(hS b _ q).2.1] at h; cases h
    | none => rw [plus_none q]; exact h
/-- the added: the cells, the list at L, the function objects -/
def capS (t : TS1) (H : Hp) (L : Addr) (vs : List V) (fs : List Addr) : Addr → Option HO := fun b => match t b with
  | some o => some (uT b o)
  | none => if b = L then some (.lst vs) else if b ∈ fs then H b else none
theorem capS_t {L : Addr} {vs : List V} {fs : List Addr} {b : Addr} {o : Obj} (h : t b = some o) : capS t H L vs fs b = some (uT b o) := by unfold capS; rw [h]
theorem capS_L {L : Addr} {vs : List V} {fs : List Addr} (h : t L = none) : capS t H L vs fs L = some (.lst vs) := by unfold capS; rw [h]; exact if_pos rfl
theorem capS_f {L : Addr} {vs : List V} {fs : List Addr} {b : Addr} (h : t b = none) (ne : b ≠ L) (hb : b ∈ fs) : capS t H L vs fs b = H b := by unfold capS; rw [h]; show (if b = L then _ else _) = _; rw [if_neg ne, if_pos hb]
theorem uT_inj {b : Addr} {o o' : Obj} (h : uT b o = uT b o') : o = o' := by
  unfold uT at h
  injection h
theorem loc_cod {f : Addr} {n : Nat} {js : List Nat} (l : LocC X F H f n js) {ob : Obj} (h : H f = some (uT f ob)) : CodOk H ob := by
  obtain ⟨x, pm, ctv, c, cs, _, h1, h2, _⟩ := l.ex
  rw [h1] at h
  have e := uT_inj (Option.some.inj h)
  intro q ps b sc cl pm' c' ctv' e2
  rw [← e] at e2
  have k1 := congrArg (fun o : Obj => match o.data with | .func fd => fd.code | _ => Value.none) e2
  have k2 := congrArg (fun o : Obj => match o.data with | .func fd => fd.qualname | _ => x.q) e2
  have j1 : Value.ref c = Value.ref c' := k1
  have j2 : x.q = q := k2
  clear k1 k2 e2 e
  cases j1
  rw [← j2]
  exact h2
theorem capS_ok {L : Addr} {vs : List V} {fs : List Addr} (g : Good F H) (un : ∀ b o, t b = some o → H b = none) (dt : ∀ b o, t b = some o → ∃ v, o.data = .cell v) (hL : H L = some (.lst vs)) (nL : F.P L = none) (tL : ¬ F.T L) (hf : ∀ f ∈ fs, ∃ n js, LocC X F H f n js) :
    ∀ b o, capS t H L vs fs b = some o → Trk t H b = some o ∧ F.P b = none ∧ ¬ F.T b ∧ (∀ ps, o ≠ .tbl ps) ∧ ∀ ob, o = uT b ob → CodOk (Trk t H) ob := fun b o h => by
  have gt := trk_good g un
  cases q : t b with
  | some o' =>
    rw [capS_t q] at h
    cases h
    refine ⟨trk_some q, ?_, fun z => ?_, fun ps z => (by cases z), fun ob z => ?_⟩
    · cases z : F.P b with
      | none => rfl
      | some u => have := g.sub b u z; rw [un b o' q] at this; cases this
    · obtain ⟨_, _, _, z2, _⟩ := g.pot b z
      rw [un b o' q] at z2; cases z2
    · have e := uT_inj z
      obtain ⟨v, hv⟩ := dt b o' q
      intro q2 ps bo sc cl pm c ctv e2
      rw [← e] at e2
      rw [e2] at hv
      cases hv
  | none =>
    by_cases e : b = L
    · subst e
      rw [capS_L q] at h
      cases h
      exact ⟨by rw [trk_none q]; exact hL, nL, tL, fun ps z => (by cases z), fun ob z => (by cases z)⟩
    · by_cases hb : b ∈ fs
      · rw [capS_f q e hb] at h
        obtain ⟨n, js, l⟩ := hf b hb
        obtain ⟨x, pm, ctv, c, cs, _, h1, h2, _⟩ := id l.ex
        refine ⟨by rw [trk_none q]; exact h, l.un, fun z => ?_, fun ps z => ?_, fun ob z => ?_⟩
        · obtain ⟨_, _, _, z2, _⟩ := g.pot b z
          rw [h1] at z2; cases z2
        · rw [h1] at h; cases h; cases z
        · subst z
          intro q2 ps bo sc cl pm' c' ctv' e2
          have k := loc_cod l h q2 ps bo sc cl pm' c' ctv' e2
          have tn : t c' = none := by
            cases z : t c' with
            | none => rfl
            | some o' => rw [un c' o' z] at k; cases k
          rw [trk_none tn]; exact k
      · unfold capS at h
        rw [q] at h
        have h : (if b = L then some (.lst vs) else if b ∈ fs then H b else none) = some o := h
        rw [if_neg e, if_neg hb] at h
        cases h
/-- captured, the list is data of the callee -/
theorem cap_rep1 {L : Addr} {vs : List V} {fs : List Addr} (r : RelE K B F H σ E) (co : CaptOk X σ t) (un : ∀ b o, t b = some o → H b = none) (hL : H L = some (.lst vs)) (le : F.Le (plusF (capS t H L vs fs) F)) {v : V} {c : Cl} {d : D} (h : RepC K X F H v c) (hfs : ∀ f n js, v = .ref f → c = .loc n js → f ∈ fs) (hd : captD E c = some d) : Rep K (plusF (capS t H L vs fs) F) v d := by
  cases h with
  | still rv => cases hd; exact rv.mono le
  | @loc f n js l =>
    have hd : (slotsD E js).map (.clo n) = some d := hd
    obtain ⟨ds, hds, rfl⟩ := Option.map_eq_some_iff.mp hd
    obtain ⟨ws, k1, k2, k3⟩ := slots_rep r js ds hds
    obtain ⟨x, pm, ctv, c, cs, hx, h1, h2, hl, nd, nn, cp⟩ := id l.ex
    have tf : t f = none := by
      cases z : t f with
      | none => rfl
      | some o' => rw [un f o' z] at h1; cases h1
    have nfL : f ≠ L := fun z => by rw [z, hL] at h1; cases h1
    have jl : js.length = x.ns.length := by
      have q := congrArg List.length cp.at_
      rwa [List.length_map, List.length_map] at q
    refine .clo hx (by rw [plus_some (by rw [capS_f tf nfL (hfs f n js rfl rfl)]; exact h1)]) hl nd (fun p hp => ?_) (by omega) (k1.mono le)
    obtain ⟨i, hi, rfl⟩ := List.mem_iff_getElem.mp hp
    rw [List.length_zip] at hi
    have i1 : i < cs.length := by omega
    have i2 : i < ws.length := by omega
    have i3 : i < x.ns.length := by omega
    have i4 : i < js.length := by omega
    obtain ⟨c2, o, u, q1, q2, q3, q4⟩ := co (x.ns.zip cs) x.ns js cp i x.ns[i] js[i] ws[i] (List.getElem?_eq_getElem i3) (List.getElem?_eq_getElem i4) (k3 i _ _ (List.getElem?_eq_getElem i4) (List.getElem?_eq_getElem i2))
    obtain ⟨c3, a1, a2⟩ := zip_at (cs := cs) nn hl (List.getElem?_eq_getElem i3)
    rw [a2] at q1
    cases q1
    rw [List.getElem?_eq_getElem i1] at a1
    cases a1
    refine ⟨o, u, ?_, q3, ?_⟩
    · rw [List.getElem_zip]
      exact plus_some (capS_t q2)
    · rw [List.getElem_zip]
      exact q4
end
end R

set_option Elab.async false
set_option linter.all false
set_option maxRecDepth 100000
set_option maxHeartbeats 2000000
/-! g([lambda: .., ..], ..), g's answer a bool -/
namespace R
open PySem PySem.Spec PyProof.Rows L2
open Tree (leaf fail)
/-- a new list of kept lambdas -/
def tCl (X : Cx) (m : En → Tree (List Cl)) : TE := fun σ H Q => ∃ B F E, Good F H ∧ RelE X.K B F H σ E ∧ (m E).all fun cs => ∀ L vs F' H', Ext F H F' H' → H' L = some (.lst vs) → F'.P L = none → ¬ F'.T L → NT H L → RepCs X.K X F' H' vs cs → Q (.ref L) H'
structure SCl (X : Cx) (e : Expr) (m : En → Tree (List Cl)) : Prop where
  pe : PE X e (tCl X m)
section
variable {X : Cx} {F F' : Fz} {H H' : Hp} {K : PySem.W.Frag}
theorem LocC.ext {f : Addr} {n : Nat} {js : List Nat} (g : Good F H) (e : Ext F H F' H') (l : LocC X F H f n js) : LocC X F' H' f n js := by
  obtain ⟨x, pm, ctv, c, cs, h0, h1, h2, r⟩ := l.ex
  have nt : ¬ F.T f := fun z => by
    obtain ⟨_, _, _, z2, _⟩ := g.pot f z
    rw [h1] at z2; cases z2
  have ntc : ¬ F.T c := fun z => by
    obtain ⟨_, _, _, z2, _⟩ := g.pot c z
    rw [h2] at z2
    exact (codeO_ext (Option.some.inj z2).symm).1 _ rfl
  refine ⟨⟨x, pm, ctv, c, cs, h0, e.keep f _ h1 nt (fun ps z => by cases z), e.keep c _ h2 ntc (codeO_ext rfl).2, r⟩, ?_⟩
  cases z : F'.P f with
  | none => rfl
  | some u =>
    rcases e.fresh f (.inl (by rw [z]; intro w; cases w)) with k | k | k
    · exact absurd l.un k
    · exact absurd k nt
    · obtain ⟨ps, k2⟩ := k _ h1; cases k2
theorem RepCs.ext (g : Good F H) (e : Ext F H F' H') : ∀ {vs : List V} {cs : List Cl}, RepCs K X F H vs cs → RepCs K X F' H' vs cs
  | _, _, .nil => .nil
  | _, _, .cons h r => .cons (match h with
    | .still rv => .still (rv.mono e.le)
    | .loc l => .loc (l.ext g e)) (RepCs.ext g e r)
theorem locs_of : ∀ {vs : List V} {cs : List Cl}, RepCs K X F H vs cs → ∃ fs : List Addr, (∀ f ∈ fs, ∃ n js, LocC X F H f n js) ∧ ∀ f n js, (V.ref f, Cl.loc n js) ∈ vs.zip cs → f ∈ fs
  | _, _, .nil => ⟨[], fun _ h => (nomatch h), fun _ _ _ h => (nomatch h)⟩
  | _, _, .cons (a := v) (b := c) h r => by
    obtain ⟨fs, k1, k2⟩ := locs_of r
    cases h with
    | still rv => exact ⟨fs, k1, fun f n js hm => by
        rcases List.mem_cons.mp hm with z | z
        · cases z
        · exact k2 f n js z⟩
    | @loc f n js l => exact ⟨f :: fs, fun f' hf => (List.mem_cons.mp hf).elim (fun z => z ▸ ⟨n, js, l⟩) (k1 f'), fun f' n' js' hm => by
        rcases List.mem_cons.mp hm with z | z
        · cases z; exact List.mem_cons_self
        · exact List.mem_cons_of_mem _ (k2 f' n' js' z)⟩
theorem cap_reps {B : Addr → Prop} {t : TS1} {σ : L2.St} {E : En} {L : Addr} {ws : List V} {fs : List Addr} (r : RelE K B F H σ E) (co : CaptOk X σ t) (un : ∀ b o, t b = some o → H b = none) (hL : H L = some (.lst ws)) (le : F.Le (plusF (capS t H L ws fs) F)) :
    ∀ {vs : List V} {cs : List Cl} {ds : List D}, RepCs K X F H vs cs → (∀ f n js, (V.ref f, Cl.loc n js) ∈ vs.zip cs → f ∈ fs) → captL E cs = some ds → Reps K (plusF (capS t H L ws fs) F) vs ds
  | _, _, ds, .nil, _, h => by cases h; exact .nil
  | _, _, ds, .cons (a := v) (b := c) (l₁ := vs) (l₂ := cs) h rs, hf, hd => by
    unfold captL at hd
    cases h1 : captD E c with
    | none => rw [h1] at hd; cases hd
    | some d =>
      cases h2 : captL E cs with
      | none => rw [h1, h2] at hd; cases hd
      | some es =>
        rw [h1, h2] at hd
        cases hd
        exact .cons (cap_rep1 r co un hL le h (fun f n js e1 e2 => hf f n js (by rw [e1, e2]; exact List.mem_cons_self)) h1) (cap_reps r co un hL le rs (fun f n js hm => hf f n js (List.mem_cons_of_mem _ hm)) h2)
end
def mCap (fn : List D → Tree D) (mcl : En → Tree (List Cl)) (ma : En → Tree (List D)) : En → Tree D := fun E => (mcl E).bind fun cs => (ma E).bind fun ds => match captL E cs with
  | some es => (fn (.lst es :: ds)).bind fun r => match r with
    | .bl b => leaf (.bl b)
    | _ => fail
  | none => fail
theorem se_cap {X : Cx} {k j : Nat} {x : Str} {fn : List D → Tree D} {p pos : Pos} {e : Expr} {es : List Expr} {mcl : En → Tree (List Cl)} {ma : En → Tree (List D)} (c : CalG X.prog X.w X.K X.mg X.base k x fn) (hG : Gd X.A) (hr : Room j X.A) (hk : k ≤ j) (hfn : ∀ y, X.fn y = true) (hg : Gl X x) (he1 : SCl X e mcl) (ha : SA X es ma)
    (hdb : (x == ("__debug__" : Str)) = false := by decide) (he : starEach (e :: es) X.env = (false, eval e X.env) :: starEach es X.env := by rfl) (hpl : (backTo pos (starEach es X.env)).any (·.1) = false := by rfl) : SE X (.Call (.Name x p) (e :: es) [] pos) (mCap fn mcl ma) := by
  obtain ⟨f, fd, ps, F, hm, kp, b⟩ := c.ex
  refine ⟨PE.weak (pe_cap F hG (hr.mono hk) hfn hg hm kp b (pa_cons he1.pe ha.pa he) hdb he hpl) fun σ H Q ⟨B, F, E, g, rl, q⟩ => ?_⟩
  refine ⟨B, F, E, g, rl, Tree.all_mono (fun cs kq L vs F1 H1 e1 hL nL tL ntL rc => ⟨B, F1, E, e1.good, rl.ext e1, Tree.all_mono (fun ds k2 ws F2 H2 e2 p2 t co un dt => ?_) (Tree.all_bind.mp kq)⟩) (Tree.all_bind.mp q)⟩
  obtain ⟨hL2, nL2, tL2⟩ := own_ext e2 hL nL tL
  have rc2 := rc.ext e1.good e2
  obtain ⟨fs, f1, f2⟩ := locs_of rc2
  have pg := plus_good (trk_good e2.good un) (capS_ok (fs := fs) e2.good un dt hL2 nL2 tL2 f1)
  cases hc : captL E cs with
  | none =>
    have k2 : (match captL E cs with
      | some es => (fn (.lst es :: ds)).bind fun r => match r with
        | .bl b => leaf (.bl b)
        | _ => fail
      | none => fail : Tree D).all _ := k2
    rw [hc] at k2
    exact k2.elim
  | some cds =>
    have k2 : (match captL E cs with
      | some es => (fn (.lst es :: ds)).bind fun r => match r with
        | .bl b => leaf (.bl b)
        | _ => fail
      | none => fail : Tree D).all fun z => ∀ w F' H', Ext F H F' H' → Rep X.K F' w z → Q w H' := k2
    rw [hc] at k2
    have tL : t L = none := by
      cases z : t L with
      | none => rfl
      | some o' => rw [un L o' z] at hL2; cases hL2
    refine ⟨plusF (capS t H2 L vs fs) F2, .lst cds :: ds, pg.1, .cons (.lst (plus_some (capS_L tL)) (cap_reps ((rl.ext e1).ext e2) co un hL2 pg.2 rc2 f2 hc)) (p2.mono pg.2), Tree.all_mono (fun r kr v F3 H3 e3 rv inn => ?_) (Tree.all_bind.mp k2)⟩
    have ee := Ext.rollT (e1.trans e2) un e3 inn (fun _ => Iff.rfl)
    cases r with
    | bl b0 =>
      cases rv
      exact (show ∀ w F' H', Ext F H F' H' → Rep X.K F' w (.bl b0) → Q w H' from kr) _ F2 _ ee (.bl b0)
    | _ => exact False.elim kr
end R

set_option Elab.async false
set_option linter.all false
set_option maxRecDepth 100000
set_option maxHeartbeats 2000000
/-! [lambda: .., ..] -/
namespace R
open PySem PySem.Spec PyProof.Rows L2 LamX
open Tree (leaf fail)
/-- the names that a lambda takes, in its closure's order -/
def freeNs (names : List (Str × NameKind)) : List Str := ((names.filter fun y => y.2 == .free).map (·.1)).reverse
theorem clo_acc (cells : List (Str × Addr)) : ∀ (names : List (Str × NameKind)) (acc : List (Str × Addr)), cloFrom cells names acc = (((names.filter fun y => y.2 == .free).map (·.1)).reverse.map fun n => (n, (cells.lookup n).getD 0)) ++ acc
  | [], acc => rfl
  | (n, k) :: r, acc => by
    unfold cloFrom
    by_cases h : (k == NameKind.free) = true
    · rw [if_pos h, clo_acc cells r, List.filter_cons, if_pos h, List.map_cons, List.reverse_cons, List.map_append, List.append_assoc]
      rfl
    · rw [if_neg h, clo_acc cells r, List.filter_cons, if_neg h]
theorem clo_zip (cells : List (Str × Addr)) (names : List (Str × NameKind)) : cloFrom cells names [] = (freeNs names).zip ((freeNs names).map fun n => (cells.lookup n).getD 0) := by
  rw [clo_acc, List.append_nil]
  unfold freeNs
  induction ((names.filter fun y => y.2 == NameKind.free).map (·.1)).reverse with
  | nil => rfl
  | cons n l ih => rw [List.map_cons, List.map_cons, List.zip_cons_cons, ih]
theorem mem_free {names : List (Str × NameKind)} {y : Str} (h : y ∈ freeNs names) : (y, NameKind.free) ∈ names := by
  unfold freeNs at h
  obtain ⟨z, hz, rfl⟩ := List.mem_map.mp (List.mem_reverse.mp h)
  obtain ⟨h1, h2⟩ := List.mem_filter.mp hz
  have h2 : z.2 = .free := by simpa using h2
  rw [← h2]
  exact h1
/-- the text of a kept lambda and its place in the def X -/
structure LamAt (X : Cx) (P c : Addr) (n : Nat) (x : CloT) (js : List Nat) : Prop where
  row : CLOS[n]? = some x
  tb : TabB X.base X.mg c P
  code : X.env.code = .ref c
  q : x.q = X.env.qual ++ "<lambda>"
  mem : (P, x.q) ∈ TB
  uniq : ∀ p ∈ TB, p.1 = P → p.2 = x.q
  dflt : defaultsOf x.params X.env = ([], [])
  ns : x.ns = freeNs x.scope.names
  nd : x.ns.Nodup
  free : ∀ y ∈ x.scope.names, y.2 = .free → X.env.scope.names.lookup y.1 = some .cell ∨ X.env.scope.names.lookup y.1 = some .free
  js : js.map (fun j => X.N[j]?) = x.ns.map some
def tLm (X : Cx) (n : Nat) (js : List Nat) : TE := fun σ H Q => ∃ B F E, Good F H ∧ RelE X.K B F H σ E ∧ ∀ f F' H', Ext F H F' H' → LocC X F' H' f n js → NT H f → Q (.ref f) H'
theorem pe_lam {X : Cx} {P c : Addr} {n : Nat} {x : CloT} {js : List Nat} {pos : Pos} (L : LamAt X P c n x js) : PE X (.Lambda x.params x.body x.scope pos) (tLm X n js) := by
  refine ⟨fun pins s σ H Q I ⟨B, F, E, g, rl, q⟩ => ?_⟩
  have hfree : ∀ y ∈ x.scope.names, y.2 = .free → ∃ d, X.env.cells.lookup y.1 = some d := fun y hy e => (L.free y hy e).elim (fun z => I.ok.has _ (.inl z)) fun z => I.ok.has _ (.inr z)
  refine lam_known (T := TB) I L.tb L.code L.q L.mem L.uniq g.tab L.dflt hfree fun f H2 s' I2 T2 M => ⟨.ref f, H2, I2, rfl, q f F H2 (ext_tabs g M.ext T2) ⟨?_, (g.free M.new).1⟩ (.none M.new)⟩
  obtain ⟨pm, ctv, d, h1, h2⟩ := M.obj
  have ez := clo_zip X.env.cells x.scope.names
  rw [← L.ns] at ez
  have cp := NdefX.Caps.made (scope := x.scope) (fr := x.ns) (js := js) I.ok L.free (fun y hy => mem_free (by rw [← L.ns]; exact hy)) L.js
  rw [ez] at h1 cp
  refine ⟨x, pm, ctv, d, _, L.row, h1, h2, by rw [List.length_map], ?_, L.nd, cp⟩
  have inj : ∀ a ∈ x.ns, ∀ b ∈ x.ns, (X.env.cells.lookup a).getD 0 = (X.env.cells.lookup b).getD 0 → a = b := fun a ha b hb e => by
    obtain ⟨u, hu⟩ := hfree (a, .free) (mem_free (by rw [← L.ns]; exact ha)) rfl
    obtain ⟨v, hv⟩ := hfree (b, .free) (mem_free (by rw [← L.ns]; exact hb)) rfl
    have hu : X.env.cells.lookup a = some u := hu
    have hv : X.env.cells.lookup b = some v := hv
    rw [hu, hv] at e
    have e : u = v := e
    subst e
    exact I.ok.inj a b u hu hv
  have nd := L.nd
  generalize x.ns = l at nd inj
  induction l with
  | nil => exact List.nodup_nil
  | cons a l ih =>
    obtain ⟨n1, n2⟩ := List.nodup_cons.mp nd
    rw [List.map_cons, List.nodup_cons]
    refine ⟨fun hm => ?_, ih n2 fun a ha b hb => inj a (List.mem_cons_of_mem _ ha) b (List.mem_cons_of_mem _ hb)⟩
    obtain ⟨b, hb, e⟩ := List.mem_map.mp hm
    exact n1 (inj b (List.mem_cons_of_mem _ hb) a List.mem_cons_self e ▸ hb)
/-- the lambdas are new since H -/
def NewC (H : Hp) (vs : List V) (cs : List Cl) : Prop := ∀ f n js, (V.ref f, Cl.loc n js) ∈ vs.zip cs → NT H f
theorem newC_nil {H : Hp} : NewC H [] [] := fun _ _ _ h => nomatch h
theorem newC_cons {H : Hp} {f : Addr} {n : Nat} {js : List Nat} {vs : List V} {cs : List Cl} (h : NT H f) (r : NewC H vs cs) : NewC H (.ref f :: vs) (.loc n js :: cs) := fun f' n' js' hm => by
  rcases List.mem_cons.mp hm with z | z
  · cases z; exact h
  · exact r f' n' js' z
theorem newC_back {F F' : Fz} {H H' : Hp} (e : Ext F H F' H') {vs : List V} {cs : List Cl} (r : NewC H' vs cs) : NewC H vs cs := fun f n js hm => by
  have h := r f n js hm
  by_cases t : F.T f
  · obtain ⟨x, y, z, _⟩ := (e.good.pot f (e.monoT f t)).2
    obtain ⟨ps, q⟩ := h _ z
    cases q
  · exact e.back h t
/-- a row of lambdas -/
structure SLs (X : Cx) (es : List Expr) (cs : List Cl) : Prop where
  pa : PA X es (fun σ H Q => ∃ B F E, Good F H ∧ RelE X.K B F H σ E ∧ ∀ vs F' H', Ext F H F' H' → RepCs X.K X F' H' vs cs → NewC H vs cs → Q vs H')
section
variable {X : Cx} {P c : Addr} {n : Nat} {x : CloT} {js : List Nat} {pos p2 : Pos} {es : List Expr} {cs : List Cl}
theorem sls_nil : SLs X [] [] := ⟨PA.weak pa_nil fun σ H Q ⟨B, F, E, g, rl, q⟩ => q [] F H (Ext.refl g) .nil newC_nil⟩
theorem sls_cons (L : LamAt X P c n x js) (r : SLs X es cs) (hs : starEach ((.Lambda x.params x.body x.scope pos) :: es) X.env = (false, eval (.Lambda x.params x.body x.scope pos) X.env) :: starEach es X.env := by rfl) : SLs X ((.Lambda x.params x.body x.scope pos) :: es) (.loc n js :: cs) :=
  ⟨PA.weak (pa_cons (pe_lam L) r.pa hs) fun σ H Q ⟨B, F, E, g, rl, q⟩ => ⟨B, F, E, g, rl, fun f F1 H1 e1 l1 n1 => ⟨B, F1, E, e1.good, rl.ext e1, fun vs F2 H2 e2 r2 n2 => q (.ref f :: vs) F2 H2 (e1.trans e2) (.cons (.loc (l1.ext e1.good e2)) r2) (newC_cons n1 (newC_back e1 n2))⟩⟩⟩
theorem scl_lst (r : SLs X es cs) : SCl X (.List es p2) (fun _ => lineOk cs.length (leaf cs)) := by
  refine ⟨PE.weak (pe_lst r.pa) fun σ H Q ⟨B, F, E, g, rl, q⟩ => ⟨B, F, E, g, rl, fun vs F1 H1 e1 rc _ => ?_⟩⟩
  obtain ⟨hl, k⟩ := lineOk_all q
  have hlen : vs.length = cs.length := Paired.length rc
  refine ⟨by rw [hlen]; exact hl, fun p hp => ?_⟩
  have e2 := Ext.new (o := .lst vs) e1.good hp
  exact k p vs F1 _ (e1.trans e2) upd_same (e1.good.free hp).1 (e1.good.free hp).2 (ext_none g e1 hp) (rc.ext e1.good e2)
end
end R

set_option Elab.async false
set_option linter.all false
set_option maxRecDepth 100000
set_option maxHeartbeats 2000000
/-! lists of kept lambdas put together -/
namespace R
open PySem PySem.Spec PyProof.Rows L2 LamX
open Tree (leaf fail)
/-- a list of kept lambdas, its own or another's -/
def tKl (X : Cx) (m : En → Tree (List Cl)) : TE := fun σ H Q => ∃ B F E, Good F H ∧ RelE X.K B F H σ E ∧ (m E).all fun cs => ∀ L vs F' H', Ext F H F' H' → H' L = some (.lst vs) → ¬ F'.T L → RepCs X.K X F' H' vs cs → Q (.ref L) H'
structure SKl (X : Cx) (e : Expr) (m : En → Tree (List Cl)) : Prop where
  pe : PE X e (tKl X m)
section
variable {X : Cx} {e a b : Expr} {m ma mb : En → Tree (List Cl)} {pos : Pos}
theorem skl_new (h : SCl X e m) : SKl X e m := ⟨PE.weak h.pe fun σ H Q ⟨B, F, E, g, rl, q⟩ => ⟨B, F, E, g, rl, Tree.all_mono (fun cs k L vs F' H' e1 hL _ tL _ rc => k L vs F' H' e1 hL tL rc) q⟩⟩
/-- a list that another def made -/
def mKl (m : En → Tree D) : En → Tree (List Cl) := fun E => (m E).bind fun d => match d with
  | .lst ds => leaf (ds.map Cl.still)
  | _ => fail
theorem reps_still {K : PySem.W.Frag} {F : Fz} {H : Hp} : ∀ {vs : List V} {ds : List D}, Reps K F vs ds → RepCs K X F H vs (ds.map Cl.still)
  | _, _, .nil => .nil
  | _, _, .cons r rs => .cons (.still r) (reps_still rs)
theorem skl_of {md : En → Tree D} (h : SE X e md) : SKl X e (mKl md) := ⟨PE.weak h.pe fun σ H Q ⟨B, F, E, g, rl, q⟩ => ⟨B, F, E, g, rl, Tree.all_mono (fun d k v F' H' e1 rv => by
  cases d with
  | lst ds =>
    cases rv with
    | @lst a xs _ hf rs =>
      refine (show ∀ L vs F' H', Ext F H F' H' → H' L = some (.lst vs) → ¬ F'.T L → RepCs X.K X F' H' vs (ds.map Cl.still) → Q (.ref L) H' from k) a xs F' H' e1 (e1.good.sub _ _ hf) (fun z => ?_) (reps_still rs)
      have n := (e1.good.pot a z).1
      rw [hf] at n; cases n
  | _ => exact False.elim k) (Tree.all_bind.mp q)⟩⟩
/-- a + b -/
def mAddCl (ma mb : En → Tree (List Cl)) : En → Tree (List Cl) := fun E => (ma E).bind fun cs => (mb E).bind fun ds => lineOk (cs.length + ds.length) (leaf (cs ++ ds))
theorem scl_add (ha : SKl X a ma) (hb : SKl X b mb) : SCl X (.BinOp a .Add b pos) (mAddCl ma mb) := by
  refine ⟨PE.weak (pe_op (op_cat (X := X)) ha.pe hb.pe) fun σ H Q ⟨B, F, E, g, rl, q⟩ => ?_⟩
  refine ⟨B, F, E, g, rl, Tree.all_mono (fun cs kc L1 vs F1 H1 e1 h1 t1 r1 => ⟨B, F1, E, e1.good, rl.ext e1, Tree.all_mono (fun ds kd L2 ws F2 H2 e2 h2 t2 r2 => ?_) (Tree.all_bind.mp kc)⟩) (Tree.all_bind.mp q)⟩
  obtain ⟨hl, k⟩ := lineOk_all kd
  have n1 : vs.length = cs.length := Paired.length r1
  have n2 : ws.length = ds.length := Paired.length r2
  have h1' := e2.keep L1 _ h1 t1 (fun ps z => by cases z)
  refine ⟨L1, L2, vs, ws, rfl, rfl, h1', h2, by rw [n1, n2]; exact hl, fun p hp => ?_⟩
  have e3 := Ext.new (o := .lst (vs ++ ws)) e2.good hp
  have app : ∀ {as bs : List V} {xs ys : List Cl}, RepCs X.K X F2 H2 as xs → RepCs X.K X F2 H2 bs ys → RepCs X.K X F2 H2 (as ++ bs) (xs ++ ys) := fun {as bs xs ys} p q => by
    induction p with
    | nil => exact q
    | cons h _ ih => exact .cons h ih
  exact k p _ F2 _ ((e1.trans e2).trans e3) upd_same (e2.good.free hp).1 (e2.good.free hp).2 (ext_none g (e1.trans e2) hp) ((app (r1.ext e1.good e2) r2).ext e2.good e3)
end
end R

set_option Elab.async false
set_option linter.all false
set_option maxRecDepth 100000
set_option maxHeartbeats 2000000
/-! calls = [lambda: ..]; calls.append(lambda: ..); .. : blocks in which a list of kept lambdas grows -/
namespace R
open PySem PySem.Spec PyProof.Rows L2 LamX
open Tree (leaf fail)
/-- the slot ic holds a list of kept lambdas at L -/
structure Blk (X : Cx) (ic : Nat) (F : Fz) (H : Hp) (σ : L2.St) (E : En) (L : Addr) (vs : List V) (cs : List Cl) : Prop where
  off : E[ic]? = some none
  at_ : σ[ic]? = some (some (.ref L))
  lst : H L = some (.lst vs)
  nP : F.P L = none
  nT : ¬ F.T L
  ne : ∀ (j : Nat) (d : D), E[j]? = some (some ⟨true, d⟩) → σ[j]? ≠ some (some (.ref L))
  rep : RepCs X.K X F H vs cs
def tBl (X : Cx) (ic : Nat) (m : List Cl → En → Tree Out) : TS := fun D0 σ H => ∃ F0 H0 F E L vs cs, Ext F0 H0 F H ∧ RelE X.K (B0 H0) F H σ E ∧ Blk X ic F H σ E L vs cs ∧ NT H0 L ∧ (m cs E).all (Post X.K F0 H0 F D0)
structure SBl (X : Cx) (ic : Nat) (ss : List Stmt) (m : List Cl → En → Tree Out) : Prop where
  ps : PSs X ss (tBl X ic m)
section
variable {X : Cx} {ic : Nat} {F F' : Fz} {H H' : Hp} {σ : L2.St} {E : En} {L : Addr} {vs : List V} {cs : List Cl} {rest : List Stmt} {m : List Cl → En → Tree Out} {mcl : En → Tree (List Cl)}
theorem Blk.ext (b : Blk X ic F H σ E L vs cs) (g : Good F H) (e : Ext F H F' H') : Blk X ic F' H' σ E L vs cs := by
  obtain ⟨h1, h2, h3⟩ := own_ext e b.lst b.nP b.nT
  exact ⟨b.off, b.at_, h1, h2, h3, b.ne, b.rep.ext g e⟩
/-- calls = [..] -/
def oCalls (ic : Nat) (mcl : En → Tree (List Cl)) (m : List Cl → En → Tree Out) : En → Tree Out := fun E => (mcl E).bind fun cs => if ic < E.length then m cs (E.set ic none) else fail
theorem b_start {st : Stmt} {e : Expr} (he : SCl X e mcl) (h : ∀ te, PE X e te → PS X st (tAsg te (gName ic))) (hr : SBl X ic rest m) : SSs X (st :: rest) (oCalls ic mcl m) := by
  refine ⟨PSs.weak (pss_cons (h _ he.pe) hr.ps) fun D0 σ H ⟨F0, H0, F, E, ex, r, q⟩ => ?_⟩
  refine ⟨B0 H0, F, E, ex.good, r, Tree.all_mono (fun cs k L vs F1 H1 e1 hL nL tL nt rc => ?_) (Tree.all_bind.mp q)⟩
  have k : (if ic < E.length then m cs (E.set ic none) else fail : Tree Out).all _ := k
  by_cases hi : ic < E.length
  · rw [if_pos hi] at k
    have r1 := r.ext e1
    refine ⟨F0, H0, F1, E.set ic none, L, vs, cs, ex.trans e1, r1.drop ic _, ⟨List.getElem?_set_self hi, List.getElem?_set_self (by rw [r.len]; exact hi), hL, nL, tL, fun j d hj hs => ?_, rc⟩, ?_, Tree.all_mono (fun o h => h.le e1.le) k⟩
    · have nj : ic ≠ j := fun z => by
        subst z
        rw [List.getElem?_set_self hi] at hj; cases hj
      rw [List.getElem?_set_ne nj] at hj hs
      obtain ⟨a, xs, ds, h1, _, h3, _⟩ := r.own j d hj
      rw [h1] at hs
      cases hs
      obtain ⟨ps, z⟩ := nt _ h3
      cases z
    · by_cases t0 : F0.T L
      · exact absurd (e1.monoT _ (ex.monoT _ t0)) tL
      · exact ex.back nt t0
  · rw [if_neg hi] at k
    exact k.elim
/-- calls.append(lambda: ..) -/
def oMore (n : Nat) (js : List Nat) (m : List Cl → En → Tree Out) : List Cl → En → Tree Out := fun cs E => if cs.length < sizeLine then m (cs ++ [.loc n js]) E else fail
theorem reps_write {o : HO} (hL : H L = some (.lst vs)) : ∀ {ws : List V} {cs : List Cl}, RepCs X.K X F H ws cs → RepCs X.K X F (upd H L o) ws cs
  | _, _, .nil => .nil
  | _, _, .cons h r => .cons (match h with
    | .still rv => .still rv
    | .loc l => .loc (by
        obtain ⟨x, pm, ctv, c, ds, h0, h1, h2, r⟩ := l.ex
        refine ⟨⟨x, pm, ctv, c, ds, h0, ?_, ?_, r⟩, l.un⟩
        · rw [upd_ne (fun z => by rw [z, hL] at h1; cases h1)]; exact h1
        · rw [upd_ne (fun z => by rw [z, hL] at h2; exact (codeO_ext (Option.some.inj h2)).1 _ rfl)]; exact h2)) (reps_write hL r)
theorem b_more {n : Nat} {x : CloT} {js : List Nat} {P c : Addr} {nm : Str} {px apos cpos lpos pos : Pos} (hv : PE X (.Name nm px) (tVar ic)) (La : LamAt X P c n x js) (hr : SBl X ic rest m)
    (hb : attributeBase (.Name nm px) "append" X.env (eval (.Name nm px) X.env) = eval (.Name nm px) X.env := by rfl) (hl : (apos.endLine == cpos.line) = true := by rfl)
    (hfew : ((backTo cpos (starEach [.Lambda x.params x.body x.scope lpos] X.env)).all (fun x => !x.1) && (backToKw cpos (keywordEach [] X.env)).all (fun x => x.1.isSome) && decide (([.Lambda x.params x.body x.scope lpos] : List Expr).length + ([] : List Keyword).length + (if ([] : List Keyword).isEmpty then 0 else 1) < 30)) = true := by rfl)
    (hs : starEach [.Lambda x.params x.body x.scope lpos] X.env = (false, eval (.Lambda x.params x.body x.scope lpos) X.env) :: starEach [] X.env := by rfl) (hw : swapsWith (.Call (.Attribute (.Name nm px) "append" apos) [.Lambda x.params x.body x.scope lpos] [] cpos) none pos.line X.env = pure false := by rfl) :
    SBl X ic (.Expr (.Call (.Attribute (.Name nm px) "append" apos) [.Lambda x.params x.body x.scope lpos] [] cpos) pos :: rest) (oMore n js m) := by
  refine ⟨PSs.weak (pss_cons (ps_expr (pe_bm PySem.F.plainAttrs_list PySem.F.slot_list_append PySem.F.type_list_append mt_append hv (pa_cons (pe_lam La) pa_nil hs) hb hfew hl hs (by rfl)) hw) hr.ps) fun D0 σ H ⟨F0, H0, F, E, L, vs, cs, ex, r, b, nt, q⟩ => ?_⟩
  refine ⟨.ref L, b.at_, .inl ⟨rfl, vs, .of b.lst⟩, B0 H0, F, E, ex.good, r, fun f F1 H1 e1 l1 _ => ?_⟩
  have b1 := b.ext ex.good e1
  have hlen : vs.length = cs.length := Paired.length b.rep
  have q : (if cs.length < sizeLine then m (cs ++ [.loc n js]) E else fail : Tree Out).all _ := q
  by_cases hc : cs.length < sizeLine
  · rw [if_pos hc] at q
    refine ⟨L, vs, .ref f, rfl, rfl, b1.lst, by rw [hlen]; exact hc, ?_⟩
    have app : ∀ {as : List V} {xs : List Cl}, RepCs X.K X F1 H1 as xs → RepCs X.K X F1 H1 (as ++ [.ref f]) (xs ++ [.loc n js]) := fun {as xs} p => by
      induction p with
      | nil => exact .cons (.loc l1) .nil
      | cons h _ ih => exact .cons h ih
    have r1 := r.ext e1
    have ex1 := ex.trans e1
    refine ⟨F0, H0, F1, E, L, _, _, ex1.write b1.nP b1.nT nt ⟨_, b1.lst⟩, ⟨r1.len, r1.val, fun i d h => ?_, r1.dist⟩, ⟨b1.off, b1.at_, upd_same, b1.nP, b1.nT, b1.ne, reps_write b1.lst (app b1.rep)⟩, nt, Tree.all_mono (fun o h => h.le e1.le) q⟩
    obtain ⟨a, xs, ds, h1, h2, h3, h4, h5, h6, h7⟩ := r1.own i d h
    exact ⟨a, xs, ds, h1, h2, by rw [upd_ne (fun z => b1.ne i d h (by rw [h1, z]))]; exact h3, h4, h5, h6, h7⟩
  · rw [if_neg hc] at q
    exact q.elim
end
end R

set_option Elab.async false
set_option linter.all false
set_option maxRecDepth 100000
set_option maxHeartbeats 2000000
/-! if not g(calls, ..): return ..; return g(calls, ..) -/
namespace R
open PySem PySem.Spec PyProof.Rows L2 LamX
open Tree (leaf fail)
/-- g(calls, ..), its answer a bool -/
def mCapB (fn : List D → Tree D) (ma : En → Tree (List D)) (cs : List Cl) : En → Tree Bool := fun E => (ma E).bind fun ds => match captL E cs with
  | some es => (fn (.lst es :: ds)).bind asB
  | none => fail
def tEB (X : Cx) (ic : Nat) (m : List Cl → En → Tree Bool) : TE := fun σ H Q => ∃ B F E L vs cs, Good F H ∧ RelE X.K B F H σ E ∧ Blk X ic F H σ E L vs cs ∧ (m cs E).all fun b => ∀ F' H', Ext F H F' H' → Q (.bl b) H'
section
variable {X : Cx} {ic k j : Nat} {x nm : Str} {fn : List D → Tree D} {p px pos : Pos} {es : List Expr} {ma : En → Tree (List D)}
theorem pe_capB (c : CalG X.prog X.w X.K X.mg X.base k x fn) (hG : Gd X.A) (hr : Room j X.A) (hk : k ≤ j) (hfn : ∀ y, X.fn y = true) (hg : Gl X x) (hv : PE X (.Name nm px) (tVar ic)) (ha : SA X es ma)
    (hdb : (x == ("__debug__" : Str)) = false := by decide) (he : starEach ((.Name nm px) :: es) X.env = (false, eval (.Name nm px) X.env) :: starEach es X.env := by rfl) (hpl : (backTo pos (starEach es X.env)).any (·.1) = false := by rfl) : PE X (.Call (.Name x p) ((.Name nm px) :: es) [] pos) (tEB X ic (mCapB fn ma)) := by
  obtain ⟨f, fd, ps, F, hm, kp, b⟩ := c.ex
  refine PE.weak (pe_cap F hG (hr.mono hk) hfn hg hm kp b (pa_cons hv ha.pa he) hdb he hpl) fun σ H Q ⟨B, F1, E, L, vs, cs, g, rl, bl, q⟩ => ?_
  refine ⟨.ref L, bl.at_, B, F1, E, g, rl, Tree.all_mono (fun ds k2 ws F2 H2 e2 p2 t co un dt => ?_) (Tree.all_bind.mp q)⟩
  have b2 := bl.ext g e2
  obtain ⟨fs, f1, f2⟩ := locs_of b2.rep
  have pg := plus_good (trk_good e2.good un) (capS_ok (fs := fs) e2.good un dt b2.lst b2.nP b2.nT f1)
  cases hc : captL E cs with
  | none =>
    rw [hc] at k2
    exact k2.elim
  | some cds =>
    rw [hc] at k2
    have tL : t L = none := by
      cases z : t L with
      | none => rfl
      | some o' => have := b2.lst; rw [un L o' z] at this; cases this
    refine ⟨plusF (capS t H2 L vs fs) F2, .lst cds :: ds, pg.1, .cons (.lst (plus_some (capS_L tL)) (cap_reps (rl.ext e2) co un b2.lst pg.2 b2.rep f2 hc)) (p2.mono pg.2), Tree.all_mono (fun r kr v F3 H3 e3 rv inn => ?_) (Tree.all_bind.mp k2)⟩
    have ee := Ext.rollT e2 un e3 inn (fun _ => Iff.rfl)
    cases r with
    | bl b0 =>
      cases rv
      have kr : (leaf b0 : Tree Bool).all (fun b => ∀ F' H', Ext F1 H F' H' → Q (.bl b) H') := kr
      exact kr _ _ ee
    | _ => exact False.elim kr
/-- if not g(calls, ..): return False; then the rest, the list no longer looked at -/
def oIfB (fn : List D → Tree D) (ma : En → Tree (List D)) (m : En → Tree Out) : List Cl → En → Tree Out := fun cs E => (mCapB fn ma cs E).bind fun b => if b = true then m E else leaf (.rt (.bl false))
theorem b_if {rest : List Stmt} {m : En → Tree Out} {c0 : Expr} {j2 : Nat} {p2 p3 p4 p5 : Pos} (hp : PE X c0 (tEB X ic (mCapB fn ma))) (hr : SSs X rest m) (hret : PS X (.Return (some (.Constant (.bool false) j2 p2)) p3) (tRet (tC (.bl false))))
    (ht : ∀ whole, isTrue c0 X.env whole = (do let v ← whole; standAt c0.pos; holding [v] (truthy v)) := by intro _; rfl) : SBl X ic (.If (.UnaryOp .Not c0 p4) [.Return (some (.Constant (.bool false) j2 p2)) p3] [] p5 :: rest) (oIfB fn ma m) := by
  refine ⟨PSs.weak (pss_cons (ps_if (pt_not (pt_val hp ht)) (pss_one hret) pss_nil) hr.ps) fun D0 σ H ⟨F0, H0, F, E, L, vs, cs, ex, r, b, nt, q⟩ => ?_⟩
  refine ⟨B0 H0, F, E, L, vs, cs, ex.good, r, b, Tree.all_mono (fun v kv F1 H1 e1 => ⟨v, rfl, ?_⟩) (Tree.all_bind.mp q)⟩
  cases v with
  | true => exact ⟨F0, H0, F1, E, ex.trans e1, r.ext e1, Tree.all_mono (fun o h => h.le e1.le) (show (m E).all _ from kv)⟩
  | false => exact (show Post X.K F0 H0 F D0 (.rt (.bl false)) from kv) (.bl false) F1 H1 (ex.trans e1) e1.le (.bl false)
end
end R

set_option Elab.async false
set_option linter.all false
set_option maxRecDepth 100000
set_option maxHeartbeats 2000000
/-! isinstance(e, C) in an except suite, the exception with a value or without one -/
namespace R
open PySem PySem.Spec PyProof.Rows L2
open Tree (leaf fail)
/-- what the heap holds of the exception's dict -/
def DcOk (H : Hp) (d : Option Addr) : Prop := d = none ∨ ∃ (dd : Addr) (fs : List (Str × V)), d = some dd ∧ H dd = some (.xd fs)
theorem XV.dc {K : PySem.W.Frag} {F : Fz} {H : Hp} {v : Option D} {d : Option Addr} (x : XV K F H v d) : DcOk H d := by
  cases v with
  | none => exact .inl x
  | some v => exact let ⟨dd, w, h1, h2, _⟩ := x; .inr ⟨dd, _, h1, h2⟩
theorem inst_of {X : Cx} {a D : Addr} {oe : Obj} {d : Option Addr} {H : Hp} {h : Heap} (hk : ∀ dd fs, H dd = some (.xd fs) → ObjOk X.prog X.w H h dd (.xd fs)) (hget : h.get? a = some oe) (hz : L2N.Zn (.ref D) d oe) (hf : ∃ vs, oe.data = .fields vs) (hd : DcOk H d) : ∃ od, PySem.W.InstAt h a oe D od := by
  obtain ⟨vs, hv⟩ := hf
  have nc : PySem.W.notCls oe = true := by unfold PySem.W.notCls; rw [hv] <;> rfl
  rcases hd with rfl | ⟨dd, fs, rfl, hH⟩
  · exact ⟨none, hget, hz.1, nc, by rw [hz.2.1]; trivial⟩
  · obtain ⟨mA, hns, _⟩ := hk dd fs hH
    obtain ⟨od, ho, _⟩ := lookIn_ns hns
    exact ⟨some od, hget, hz.1, nc, by rw [hz.2.1]; exact ho⟩
/-- what the class D must say, so that isinstance can ask its instances -/
structure IsC (K : PySem.W.Frag) (D : Addr) : Prop where
  hc : (PySem.W.clsIn K D).isSome = true
  gb : PySem.W.findIn K (.ref D) (Str.ofString "__getattribute__") = some (some (.builtin "BaseException.__getattribute__"))
  gn : PySem.W.findIn K (.ref D) (Str.ofString "__getattr__") = some none
  sb : PySem.W.subIn K (.ref D) (.type "BaseException") = some true
  cl : PySem.W.findIn K (.ref D) (Str.ofString "__class__") = some (some (.builtin "object.__class__"))
  gt : PySem.W.specialIn K (.builtin "object.__class__") "__get__" = some (some (.builtin "getset_descriptor.__get__"))
  tk : PySem.W.takesIn K (.builtin "object.__class__") = some true
  ob : PySem.W.mroIn K D (.type "object") = some true
def rIsV (K : PySem.W.Frag) (D a : Addr) (d : Option Addr) : List V → Hp → VK → Prop := fun xs H Q => ∃ (c : V) (cv : Value) (b : Bool), xs = [.ref a, c] ∧ (∀ u, RelV c u → u = cv) ∧ PySem.W.kitOne K (.ref D) cv = some b ∧ DcOk H d ∧ Q (.bl b) H
theorem call_isV {X : Cx} {a D : Addr} {d : Option Addr} {oe : Obj} {pn : List (Addr × Obj)} (C : IsC X.K D) (hz : L2N.Zn (.ref D) d oe) (hf : ∃ vs, oe.data = .fields vs) : CallR (X.suite a ((a, oe) :: pn)) (.builtin "isinstance") (rIsV X.K D a d) := by
  refine fun pins s σ H xs us Q I r ⟨c, cv, b, e0, hcv, e, hd, q⟩ => ?_
  subst e0
  obtain ⟨ux, ut, rfl, rx, rt⟩ : ∃ ux ut, us = [ux, ut] ∧ RelV (.ref a) ux ∧ RelV c ut := by
    cases r with
    | cons rx rr => cases rr with
      | cons rt rr => cases rr; exact ⟨_, _, rfl, rx, rt⟩
  obtain rfl : ux = Value.ref a := rx
  obtain rfl := hcv _ rt
  obtain ⟨hget, _⟩ := I.pin (a, oe) (List.mem_append.mpr (.inl List.mem_cons_self))
  obtain ⟨od, J⟩ := inst_of (X := X) (fun dd fs h => I.hok dd _ h) hget hz hf hd
  exact PySem.W.kia_one (PySem.W.kitx_exc C.hc C.gb C.gn C.sb C.cl C.gt C.tk C.ob) I.kIn J e (fun z => nomatch z) fun tk => ⟨.bl b, H, I.kept (t' := tk) fun _ _ z => z, rfl, q⟩
/-- the answer by the class's number -/
def mIsV (tb : List Bool) : SuE := fun k _ _ => match tb[k]? with
  | some b => leaf (.bl b)
  | none => fail
theorem sx_isi {X : Cx} {C : Nat → Value} {i : Nat} {pos p p1 p2 : Pos} {n : Str} {ec : Expr} {c : V} {cv : Value} (tb : List Bool)
    (hX : ∀ k b, tb[k]? = some b → ∃ CA, C k = .ref CA ∧ IsC X.K CA ∧ PySem.W.kitOne X.K (.ref CA) cv = some b) (hg : Gl X "isinstance") (hm : X.mg "isinstance" = none) (hcv : ∀ u, RelV c u → u = cv)
    (hv : ∀ (a : Addr) (q : List (Addr × Obj)), PE (X.suite a q) (.Name n p1) (tVar i)) (hc : ∀ (a : Addr) (q : List (Addr × Obj)), PE (X.suite a q) ec (tC c))
    (h1 : ∀ (a : Addr) (q : List (Addr × Obj)), starEach (.Name n p1 :: ec :: []) (X.suite a q).env = (false, eval (.Name n p1) (X.suite a q).env) :: starEach (ec :: []) (X.suite a q).env := by intros; rfl)
    (h2 : ∀ (a : Addr) (q : List (Addr × Obj)), starEach (ec :: []) (X.suite a q).env = (false, eval ec (X.suite a q).env) :: starEach [] (X.suite a q).env := by intros; rfl)
    (hpl : ∀ (a : Addr) (q : List (Addr × Obj)), (backTo pos (starEach (ec :: []) (X.suite a q).env)).any (·.1) = false := by intros; rfl) :
    SXe X C i (.Call (.Name "isinstance" p) [.Name n p1, ec] [] pos) (mIsV tb) := by
  refine ⟨fun a ob cls d q hz hf => ⟨fun pins s σ H Q I ⟨k, v, B, F, E, ⟨i1, i2, i3⟩, g, rl, h⟩ => ?_⟩⟩
  have h : (match tb[k]? with | some b => leaf (D.bl b) | none => fail : Tree D).all _ := h
  cases hb : tb[k]? with
  | none => rw [hb] at h; exact h.elim
  | some b =>
    rw [hb] at h
    obtain ⟨CA, c1, c2, c3⟩ := hX k b hb
    obtain rfl : cls = .ref CA := i1.trans c1
    exact (pe_callB (call_isV c2 hz hf) hg hm (by decide +kernel) (pa_cons (hv a _) (pa_cons (hc a _) pa_nil (h2 a _)) (h1 a _)) (by decide) (by decide) (h1 a _) (hpl a _)).run pins s σ H Q I ⟨.ref a, i3, c, cv, b, rfl, hcv, c3, i2.dc, h (.bl b) F H (Ext.refl g) (.bl b)⟩
end R

set_option Elab.async false
set_option linter.all false
set_option maxRecDepth 100000
set_option maxHeartbeats 2000000
/-! return g(calls, ..) at a block's end -/
namespace R
open PySem PySem.Spec PyProof.Rows L2 LamX
open Tree (leaf fail)
section
variable {X : Cx} {ic : Nat} {fn : List D → Tree D} {ma : En → Tree (List D)}
def oRetB (fn : List D → Tree D) (ma : En → Tree (List D)) : List Cl → En → Tree Out := fun cs E => (mCapB fn ma cs E).bind fun b => leaf (.rt (.bl b))
theorem b_ret {c0 : Expr} {p3 : Pos} (hp : PE X c0 (tEB X ic (mCapB fn ma))) : SBl X ic [.Return (some c0) p3] (oRetB fn ma) := by
  refine ⟨pss_one (PS.weak (ps_ret hp) fun D0 σ H ⟨F0, H0, F, E, L, vs, cs, ex, r, b, nt, q⟩ => ?_)⟩
  refine ⟨B0 H0, F, E, L, vs, cs, ex.good, r, b, Tree.all_mono (fun v kv F1 H1 e1 => ?_) (Tree.all_bind.mp q)⟩
  exact (show Post X.K F0 H0 F D0 (.rt (.bl v)) from kv) (.bl v) F1 H1 (ex.trans e1) e1.le (.bl v)
end
end R

set_option Elab.async false
set_option linter.all false
set_option maxRecDepth 100000
set_option maxHeartbeats 2000000
/-! the body of a kept lambda: a call by names of a def that may raise -/
namespace R
open PySem PySem.Spec PyProof.Rows L2
open Tree (leaf fail)
structure CalKV (P : Program) (w : World) (K : PySem.W.Frag) (mg : Str → Option Value) (base : Heap) (k : Nat) (x : Str) (C : Nat → Value) (fn : List D → Tree (Res D)) (ks : List Str) (is : List Nat) : Prop where
  ex : ∃ (f : Addr) (fd : FuncData) (ps : List Str), FnOk P w K mg base (L2N.CX P w) k f fd ps (spV K C fn) ∧ mg x = some (.ref f) ∧ PySem.W.keepIn K (.ref f) = true ∧ KwBinds K fd ps ks is
section
variable {P : Program} {w : World} {K : PySem.W.Frag} {mg : Str → Option Value} {base : Heap} {A : Around} {outer : List Env} {s : Shared} {H : Hp} {E : XK} {f c : Addr} {cl : List (Str × Addr)} {x : CloT} {C : Nat → Value} {k j : Nat} {fx : List D → Tree (Res D)} {ma : En → Tree (List D)} {y : Str} {kws : List Keyword} {ks : List Str} {is : List Nat} {p pos : Pos}
theorem clo_callK (cx : CalKV P w K mg base j y C fx ks is) (hr : Room k (A.deeper (NdefX.envF (nfOf x cl c) f s.heap.objs.size))) (hj : j ≤ k) (hg : x.scope.names.lookup y = some .globalImplicit)
    (ha : SK_ (NdefX.ncx (L2N.CX P w) P w K mg base x.ns (nfOf x cl c) f A outer s H E) kws ma)
    (hall : ∀ env, (backToKw pos (keywordEach kws env)).all (·.1.isSome) = true := by intro; rfl) (hks : ∀ env, (backToKw pos (keywordEach kws env)).filterMap (·.1) = ks := by intro; rfl) (hdb : (y == ("__debug__" : Str)) = false := by decide)
    (hpl : ∀ env, ((backTo pos (starEach [] env)).any (·.1) || (backToKw pos (keywordEach kws env)).any (·.1.isNone)) = false := by intro; rfl) :
    PE (NdefX.ncx (L2N.CX P w) P w K mg base x.ns (nfOf x cl c) f A outer s H E) (.Call (.Name y p) [] kws pos) (tLV K C (mCloCall (fun ds => fx (permD is ds)) ma) E) := by
  obtain ⟨g, fd, ps, F, hm, kp, b⟩ := cx.ex
  generalize hX : NdefX.ncx (L2N.CX P w) P w K mg base x.ns (nfOf x cl c) f A outer s H E = X at ha
  have tk : L2N.Takes X (fun cls d _ H => E cls d H) := hX ▸ L2N.takes_of rfl rfl rfl rfl
  subst hX
  refine ⟨fun pins s1 σ H1 Q I ⟨B, F', E', g', rl, q⟩ => ?_⟩
  refine wpAny_Call_Name_kw (ld_glob I hg hm ?_ hdb)
  refine PySem.W.callWith_KW0 (h₀ := base) I.ok.mod.kin kp (hall _) (thn (ha.pk.run pos pins s1 σ H1 (fun zs H2 => ∃ F2 ds, Ext F' H1 F2 H2 ∧ Reps K F2 zs ds ∧ (fx (permD is ds)).all (PV K C F' H1 Q E)) I ⟨B, F', E', g', rl, Tree.all_mono (fun ds k2 vs F2 H2 e2 p2 => ⟨F2, ds, e2, p2, k2⟩) (Tree.all_bind.mp q)⟩) fun ws s2 ⟨zs, H2, I2, rz, q2⟩ => ⟨I2.kIn, ?_⟩) (hpl _)
  obtain ⟨F2, ds, e2, r, q2⟩ := q2
  have q3 : spV K C fx (is.filterMap fun i => zs[i]?) H2 Q E := by
    refine ⟨F2, permD is ds, e2.good, perm_rep r is, Tree.all_mono (fun o ko => ?_) q2⟩
    cases o with
    | ok d => exact fun v F3 H3 e3 rv => ko v F3 H3 (e2.trans e3) rv
    | ex i v => exact fun F3 H3 d e3 xv => ko F3 H3 d (e2.trans e3) xv
  rw [hks _]
  have r2 := perm_vals rz is
  have hl := r2.length.symm.trans (F.len _ _ _ _ q3)
  refine wpAny_call (codeAny_mono ((F.mono hj).run _ _ s2 H2 _ _ _ Q E hr I2.env0 (b.to s2 ws I2.kIn hl) r2 q3) fun r s' hq => ?_)
  cases r with
  | error e => exact L2N.passAt tk σ pins H2 s2 e s' I2 hq
  | ok fl =>
    cases fl with
    | ret u => exact I2.after hq
    | next => exact False.elim hq
    | brk => exact False.elim hq
    | cont => exact False.elim hq
end
end R

set_option Elab.async false
set_option linter.all false
set_option maxRecDepth 100000
set_option maxHeartbeats 2000000
/-! calls of defs that may raise, made ready from the module's facts -/
namespace R
open PySem PySem.Spec PyProof.Rows L2
section
variable {P : Program} {w : World} {K : PySem.W.Frag} {mg : Str → Option Value} {base : Heap} {x : Str} {st : Stmt} {C : Nat → Value} {fn : List D → Tree (Res D)} {k : Nat} {ps ks : List Str} {is : List Nat}
theorem calv_mk (a : At K mg x st) (c : ∀ f fd, Fun K x x st f fd → FnOk P w K mg base (L2N.CX P w) k f fd ps (spV K C fn))
    (hb : ∀ (kV doc pm : Value) (an : Option Addr) (cdv ct : Value) (us : List Value), us.length = ps.length → bindArgs (PySem.W.fnOf x x (defArgs st) (defBody st) (defScope st) .none kV doc pm an cdv ct) ⟨us, []⟩ = pure (ps.zip us)) : CalV P w K mg base k x C fn := by
  obtain ⟨f, fd, F, hm⟩ := a.ex
  exact ⟨f, fd, ps, c f fd F, hm, F.kp, F.binds hb⟩
theorem kwv_mk (a : At K mg x st) (c : ∀ f fd, Fun K x x st f fd → FnOk P w K mg base (L2N.CX P w) k f fd ps (spV K C fn))
    (hb : ∀ (kV doc pm : Value) (an : Option Addr) (cdv ct : Value) (ws : List Value), (is.filterMap fun i => ws[i]?).length = ps.length → bindArgs (PySem.W.fnOf x x (defArgs st) (defBody st) (defScope st) .none kV doc pm an cdv ct) ⟨[], ks.zip ws⟩ = pure (ps.zip (is.filterMap fun i => ws[i]?))) : CalKV P w K mg base k x C fn ks is := by
  obtain ⟨f, fd, F, hm⟩ := a.ex
  have c' := c f fd F
  have kp := F.kp
  obtain ⟨oc, od, kV, doc, pm, an, cdv, ct, osl, e, lk, hcd⟩ := F.ex
  refine ⟨f, fd, ps, c', hm, kp, ⟨fun s ws _ hl => ?_⟩⟩
  rw [e]
  exact .of_eq (hb kV doc pm an cdv ct ws hl)
end
end R

set_option Elab.async false
set_option linter.all false
set_option maxRecDepth 100000
set_option maxHeartbeats 2000000
/-! a def that tells a new list of lambdas of its own frame: the frame's cells stand still behind it -/
namespace R
open PySem PySem.Spec PyProof.Rows L2 LamX
open Tree (leaf fail)
/-- what is wanted at a return, the slots told, too -/
abbrev RK := V → L2.St → Hp → Prop
def SPr (X : Cx) (pins : List (Addr × Obj)) (R : RK) (f : Flow) (s' : Shared) : Prop := match f with
  | .ret u => ∃ v σ' H', Inv X pins σ' H' s' ∧ RelV v u ∧ R v σ' H'
  | _ => False
abbrev TR := RK → L2.St → Hp → Prop
structure PSr (X : Cx) (ss : List Stmt) (t : TR) : Prop where
  run : ∀ (pins : List (Addr × Obj)) (s : Shared) (σ : L2.St) (H : Hp) (R : RK), Inv X pins σ H s → t R σ H → wpAny (model X.prog X.w) X.A (execs ss X.env) (SPr X pins R) X.xe s
section
variable {X : Cx} {st : Stmt} {rest ss : List Stmt} {t : TS} {u u' : TR} {e : Expr} {te : TE} {pos : Pos}
theorem PSr.weak (h : PSr X ss u) (w : ∀ R σ H, u' R σ H → u R σ H) : PSr X ss u' := ⟨fun pins s σ H R I q => h.run pins s σ H R I (w R σ H q)⟩
theorem psr_cons (h1 : PS X st t) (h2 : PSr X rest u) : PSr X (st :: rest) (fun R σ H => t { nx := u R, rt := fun _ _ => False } σ H) := by
  refine ⟨fun pins s σ H R I h => ?_⟩
  refine wpAny_execs_cons (thn (h1.run pins s σ H _ I h) fun f s1 q => ?_)
  cases f with
  | next =>
    obtain ⟨σ', H', I', q⟩ := q
    exact h2.run pins s1 σ' H' R I' q
  | ret v => obtain ⟨_, _, _, _, _, z⟩ := q; exact False.elim z
  | brk => obtain ⟨_, _, _, z⟩ := q; exact False.elim z
  | cont => obtain ⟨_, _, _, z⟩ := q; exact False.elim z
theorem psr_ret (he : PE X e te) : PSr X [.Return (some e) pos] (fun R σ H => te σ H fun v H1 => R v σ H1) := by
  refine ⟨fun pins s σ H R I h => ?_⟩
  refine wpAny_execs_cons (wpAny_Return_some (thn (he.run pins s σ H _ I h) fun v s1 ⟨x, H1, I1, r1, q1⟩ => ?_))
  exact ⟨x, σ, H1, I1, r1, q1⟩
end
/-! ### blocks that end by telling the list -/
def PostK (X : Cx) (F0 : Fz) (H0 : Hp) (R : RK) (ds : List D) : Prop := ∀ σ' F' H' E' B L vs cs, Ext F0 H0 F' H' → RelE X.K B F' H' σ' E' → NT H0 L → H' L = some (.lst vs) → F'.P L = none → ¬ F'.T L → RepCs X.K X F' H' vs cs → NewC H0 vs cs → captL E' cs = some ds → R (.ref L) σ' H'
def tBk (X : Cx) (ic : Nat) (m : List Cl → En → Tree (List D)) : TR := fun R σ H => ∃ F0 H0 F E L vs cs, Ext F0 H0 F H ∧ RelE X.K (B0 H0) F H σ E ∧ Blk X ic F H σ E L vs cs ∧ NT H0 L ∧ NewC H0 vs cs ∧ (m cs E).all (PostK X F0 H0 R)
structure SBk (X : Cx) (ic : Nat) (ss : List Stmt) (m : List Cl → En → Tree (List D)) : Prop where
  ps : PSr X ss (tBk X ic m)
/-- a body that tells such a list -/
structure SBK (X : Cx) (ss : List Stmt) (m : En → Tree (List D)) : Prop where
  ps : PSr X ss fun R σ H => ∃ F0 H0 F E, Ext F0 H0 F H ∧ RelE X.K (B0 H0) F H σ E ∧ (m E).all (PostK X F0 H0 R)
/-- a new list of lambdas, they new, too -/
def tClN (X : Cx) (m : En → Tree (List Cl)) : TE := fun σ H Q => ∃ B F E, Good F H ∧ RelE X.K B F H σ E ∧ (m E).all fun cs => ∀ L vs F' H', Ext F H F' H' → H' L = some (.lst vs) → F'.P L = none → ¬ F'.T L → NT H L → RepCs X.K X F' H' vs cs → NewC H vs cs → Q (.ref L) H'
structure SClN (X : Cx) (e : Expr) (m : En → Tree (List Cl)) : Prop where
  pe : PE X e (tClN X m)
section
variable {X : Cx} {ic : Nat} {F F' : Fz} {H H' : Hp} {σ : L2.St} {E : En} {L : Addr} {vs : List V} {cs : List Cl} {rest : List Stmt} {m : List Cl → En → Tree (List D)} {mcl ma mb : En → Tree (List Cl)} {P c : Addr} {n : Nat} {x : CloT} {js : List Nat} {pos p2 : Pos} {es : List Expr}
theorem SClN.scl {e : Expr} (h : SClN X e mcl) : SCl X e mcl := ⟨PE.weak h.pe fun σ H Q ⟨B, F, E, g, rl, q⟩ => ⟨B, F, E, g, rl, Tree.all_mono (fun cs k L vs F' H' e h n t nt rc _ => k L vs F' H' e h n t nt rc) q⟩⟩
theorem scln_lst (r : SLs X es cs) : SClN X (.List es p2) (fun _ => lineOk cs.length (leaf cs)) := by
  refine ⟨PE.weak (pe_lst r.pa) fun σ H Q ⟨B, F, E, g, rl, q⟩ => ⟨B, F, E, g, rl, fun vs F1 H1 e1 rc nw => ?_⟩⟩
  obtain ⟨hl, k⟩ := lineOk_all q
  have hlen : vs.length = cs.length := Paired.length rc
  refine ⟨by rw [hlen]; exact hl, fun p hp => ?_⟩
  have e2 := Ext.new (o := .lst vs) e1.good hp
  exact k p vs F1 _ (e1.trans e2) upd_same (e1.good.free hp).1 (e1.good.free hp).2 (ext_none g e1 hp) (rc.ext e1.good e2) nw
theorem newC_still {H : Hp} {vs : List V} {ds : List D} : NewC H vs (ds.map Cl.still) := fun f n js hm => by
  have := (List.of_mem_zip hm).2
  obtain ⟨d, _, e⟩ := List.mem_map.mp this
  cases e
/-- a new list that another def told -/
def mStill (ml : En → Tree (List D)) : En → Tree (List Cl) := fun E => (ml E).bind fun ds => leaf (ds.map Cl.still)
theorem scln_sl {e : Expr} {ml : En → Tree (List D)} (h : SL X e ml) : SClN X e (mStill ml) := ⟨PE.weak h.pe fun σ H Q ⟨B, F, E, g, rl, q⟩ => ⟨B, F, E, g, rl, Tree.all_mono (fun ds k L vs F' H' e hL nL tL nt rs =>
  k L vs F' H' e hL nL tL nt (reps_still rs) newC_still) (Tree.all_bind.mp q)⟩⟩
theorem newC_app {H : Hp} : ∀ {as bs : List V} {xs ys : List Cl}, as.length = xs.length → NewC H as xs → NewC H bs ys → NewC H (as ++ bs) (xs ++ ys)
  | as, bs, xs, ys, hl, p, q => fun f n js hm => by
    rw [List.zip_append hl] at hm
    rcases List.mem_append.mp hm with z | z
    · exact p f n js z
    · exact q f n js z
theorem scln_add {a b : Expr} (ha : SClN X a ma) (hb : SClN X b mb) : SClN X (.BinOp a .Add b pos) (mAddCl ma mb) := by
  refine ⟨PE.weak (pe_op (op_cat (X := X)) ha.pe hb.pe) fun σ H Q ⟨B, F, E, g, rl, q⟩ => ?_⟩
  refine ⟨B, F, E, g, rl, Tree.all_mono (fun cs kc L1 vs F1 H1 e1 h1 p1 t1 nt1 r1 w1 => ⟨B, F1, E, e1.good, rl.ext e1, Tree.all_mono (fun ds kd L2 ws F2 H2 e2 h2 p2 t2 nt2 r2 w2 => ?_) (Tree.all_bind.mp kc)⟩) (Tree.all_bind.mp q)⟩
  obtain ⟨hl, k⟩ := lineOk_all kd
  have n1 : vs.length = cs.length := Paired.length r1
  have n2 : ws.length = ds.length := Paired.length r2
  have h1' := e2.keep L1 _ h1 t1 (fun ps z => by cases z)
  refine ⟨L1, L2, vs, ws, rfl, rfl, h1', h2, by rw [n1, n2]; exact hl, fun p hp => ?_⟩
  have e3 := Ext.new (o := .lst (vs ++ ws)) e2.good hp
  have app : ∀ {as bs : List V} {xs ys : List Cl}, RepCs X.K X F2 H2 as xs → RepCs X.K X F2 H2 bs ys → RepCs X.K X F2 H2 (as ++ bs) (xs ++ ys) := fun {as bs xs ys} p q => by
    induction p with
    | nil => exact q
    | cons h _ ih => exact .cons h ih
  exact k p _ F2 _ ((e1.trans e2).trans e3) upd_same (e2.good.free hp).1 (e2.good.free hp).2 (ext_none g (e1.trans e2) hp) ((app (r1.ext e1.good e2) r2).ext e2.good e3) (newC_app n1 w1 (newC_back e1 w2))
/-- calls = .. -/
def oCallsK (ic : Nat) (mcl : En → Tree (List Cl)) (m : List Cl → En → Tree (List D)) : En → Tree (List D) := fun E => (mcl E).bind fun cs => if ic < E.length then m cs (E.set ic none) else fail
theorem bk_start {st : Stmt} {e : Expr} (he : SClN X e mcl) (h : ∀ te, PE X e te → PS X st (tAsg te (gName ic))) (hr : SBk X ic rest m) : SBK X (st :: rest) (oCallsK ic mcl m) := by
  refine ⟨PSr.weak (psr_cons (h _ he.pe) hr.ps) fun R σ H ⟨F0, H0, F, E, ex, r, q⟩ => ?_⟩
  refine ⟨B0 H0, F, E, ex.good, r, Tree.all_mono (fun cs k L vs F1 H1 e1 hL nL tL nt rc nw => ?_) (Tree.all_bind.mp q)⟩
  have k : (if ic < E.length then m cs (E.set ic none) else fail : Tree (List D)).all _ := k
  by_cases hi : ic < E.length
  · rw [if_pos hi] at k
    have r1 := r.ext e1
    refine ⟨F0, H0, F1, E.set ic none, L, vs, cs, ex.trans e1, r1.drop ic _, ⟨List.getElem?_set_self hi, List.getElem?_set_self (by rw [r.len]; exact hi), hL, nL, tL, fun j d hj hs => ?_, rc⟩, ?_, newC_back ex nw, k⟩
    · have nj : ic ≠ j := fun z => by
        subst z
        rw [List.getElem?_set_self hi] at hj; cases hj
      rw [List.getElem?_set_ne nj] at hj hs
      obtain ⟨a, xs, ds, h1, _, h3, _⟩ := r.own j d hj
      rw [h1] at hs
      cases hs
      obtain ⟨ps, z⟩ := nt _ h3
      cases z
    · by_cases t0 : F0.T L
      · exact absurd (e1.monoT _ (ex.monoT _ t0)) tL
      · exact ex.back nt t0
  · rw [if_neg hi] at k
    exact k.elim
def oMoreK (n : Nat) (js : List Nat) (m : List Cl → En → Tree (List D)) : List Cl → En → Tree (List D) := fun cs E => if cs.length < sizeLine then m (cs ++ [.loc n js]) E else fail
theorem bk_more {nm : Str} {px apos cpos lpos pos : Pos} (hv : PE X (.Name nm px) (tVar ic)) (La : LamAt X P c n x js) (hr : SBk X ic rest m)
    (hb : attributeBase (.Name nm px) "append" X.env (eval (.Name nm px) X.env) = eval (.Name nm px) X.env := by rfl) (hl : (apos.endLine == cpos.line) = true := by rfl)
    (hfew : ((backTo cpos (starEach [.Lambda x.params x.body x.scope lpos] X.env)).all (fun x => !x.1) && (backToKw cpos (keywordEach [] X.env)).all (fun x => x.1.isSome) && decide (([.Lambda x.params x.body x.scope lpos] : List Expr).length + ([] : List Keyword).length + (if ([] : List Keyword).isEmpty then 0 else 1) < 30)) = true := by rfl)
    (hs : starEach [.Lambda x.params x.body x.scope lpos] X.env = (false, eval (.Lambda x.params x.body x.scope lpos) X.env) :: starEach [] X.env := by rfl) (hw : swapsWith (.Call (.Attribute (.Name nm px) "append" apos) [.Lambda x.params x.body x.scope lpos] [] cpos) none pos.line X.env = pure false := by rfl) :
    SBk X ic (.Expr (.Call (.Attribute (.Name nm px) "append" apos) [.Lambda x.params x.body x.scope lpos] [] cpos) pos :: rest) (oMoreK n js m) := by
  refine ⟨PSr.weak (psr_cons (ps_expr (pe_bm PySem.F.plainAttrs_list PySem.F.slot_list_append PySem.F.type_list_append mt_append hv (pa_cons (pe_lam La) pa_nil hs) hb hfew hl hs (by rfl)) hw) hr.ps) fun R σ H ⟨F0, H0, F, E, L, vs, cs, ex, r, b, nt, nw, q⟩ => ?_⟩
  refine ⟨.ref L, b.at_, .inl ⟨rfl, vs, .of b.lst⟩, B0 H0, F, E, ex.good, r, fun f F1 H1 e1 l1 n1 => ?_⟩
  have b1 := b.ext ex.good e1
  have hlen : vs.length = cs.length := Paired.length b.rep
  have q : (if cs.length < sizeLine then m (cs ++ [.loc n js]) E else fail : Tree (List D)).all _ := q
  by_cases hc : cs.length < sizeLine
  · rw [if_pos hc] at q
    refine ⟨L, vs, .ref f, rfl, rfl, b1.lst, by rw [hlen]; exact hc, ?_⟩
    have app : ∀ {as : List V} {xs : List Cl}, RepCs X.K X F1 H1 as xs → RepCs X.K X F1 H1 (as ++ [.ref f]) (xs ++ [.loc n js]) := fun {as xs} p => by
      induction p with
      | nil => exact .cons (.loc l1) .nil
      | cons h _ ih => exact .cons h ih
    have r1 := r.ext e1
    have ex1 := ex.trans e1
    refine ⟨F0, H0, F1, E, L, _, _, ex1.write b1.nP b1.nT nt ⟨_, b1.lst⟩, ⟨r1.len, r1.val, fun i d h => ?_, r1.dist⟩, ⟨b1.off, b1.at_, upd_same, b1.nP, b1.nT, b1.ne, reps_write b1.lst (app b1.rep)⟩, nt, newC_app hlen nw (newC_back ex (newC_cons n1 newC_nil)), q⟩
    obtain ⟨a, xs, ds, h1, h2, h3, h4, h5, h6, h7⟩ := r1.own i d h
    exact ⟨a, xs, ds, h1, h2, by rw [upd_ne (fun z => b1.ne i d h (by rw [h1, z]))]; exact h3, h4, h5, h6, h7⟩
  · rw [if_neg hc] at q
    exact q.elim
/-- return calls -/
def oRetK : List Cl → En → Tree (List D) := fun cs E => match captL E cs with
  | some ds => leaf ds
  | none => fail
theorem bk_ret {nm : Str} {px pos : Pos} (hv : PE X (.Name nm px) (tVar ic)) : SBk X ic [.Return (some (.Name nm px)) pos] oRetK := by
  refine ⟨PSr.weak (psr_ret hv) fun R σ H ⟨F0, H0, F, E, L, vs, cs, ex, r, b, nt, nw, q⟩ => ?_⟩
  refine ⟨.ref L, b.at_, ?_⟩
  unfold oRetK at q
  cases hc : captL E cs with
  | none => rw [hc] at q; exact q.elim
  | some ds =>
    rw [hc] at q
    exact (show PostK X F0 H0 R ds from q) σ F H E _ L vs cs ex r nt b.lst b.nP b.nT b.rep nw hc
/-- a statement ahead of the block -/
def oSeqK (m : En → Tree Out) (n : En → Tree (List D)) : En → Tree (List D) := fun E => (m E).bind fun o => match o with
  | .nx E' => n E'
  | _ => fail
theorem postK_le {F0 F F1 : Fz} {H0 : Hp} {R : RK} {ds : List D} (h : PostK X F0 H0 R ds) : PostK X F0 H0 R ds := h
theorem bk_seq {st : Stmt} {m1 : En → Tree Out} {m2 : En → Tree (List D)} (h1 : SS X st m1) (h2 : SBK X rest m2) : SBK X (st :: rest) (oSeqK m1 m2) := by
  refine ⟨PSr.weak (psr_cons h1.ps h2.ps) fun R σ H ⟨F0, H0, F, E, e, r, q⟩ => ?_⟩
  refine ⟨F0, H0, F, E, e, r, Tree.all_mono (fun o k => ?_) (Tree.all_bind.mp q)⟩
  cases o with
  | nx E' => exact fun σ' F' H' e' l r' => ⟨F0, H0, F', E', e', r', k⟩
  | rt d => exact False.elim k
  | bk E' => exact False.elim k
  | ct E' => exact False.elim k
end
end R

set_option Elab.async false
set_option linter.all false
set_option maxRecDepth 100000
set_option maxHeartbeats 2000000
/-! the promise of a def that tells a new list of lambdas of its own frame -/
namespace R
open PySem PySem.Spec PyProof.Rows L2 LamX
open Tree (leaf fail)
/-- the added: the cells, the function objects -/
def capS0 (t : TS1) (H : Hp) (fs : List Addr) : Addr → Option HO := fun b => match t b with
  | some o => some (uT b o)
  | none => if b ∈ fs then H b else none
section
variable {K : PySem.W.Frag} {X : Cx} {B : Addr → Prop} {F F0 : Fz} {H H0 : Hp} {t : TS1} {σ : L2.St} {E : En} {fs : List Addr}
theorem capS0_t {b : Addr} {o : Obj} (h : t b = some o) : capS0 t H fs b = some (uT b o) := by unfold capS0; rw [h]
theorem capS0_f {b : Addr} (h : t b = none) (hb : b ∈ fs) : capS0 t H fs b = H b := by unfold capS0; rw [h]; show (if b ∈ fs then _ else _) = _; rw [if_pos hb]
theorem capS0_ok (g : Good F H) (un : ∀ b o, t b = some o → H b = none) (dt : ∀ b o, t b = some o → ∃ v, o.data = .cell v) (hf : ∀ f ∈ fs, ∃ n js, LocC X F H f n js) :
    ∀ b o, capS0 t H fs b = some o → Trk t H b = some o ∧ F.P b = none ∧ ¬ F.T b ∧ (∀ ps, o ≠ .tbl ps) ∧ ∀ ob, o = uT b ob → CodOk (Trk t H) ob := fun b o h => by
  have gt := trk_good g un
  cases q : t b with
  | some o' =>
    rw [capS0_t q] at h
    cases h
    refine ⟨trk_some q, ?_, fun z => ?_, fun ps z => (by cases z), fun ob z => ?_⟩
    · cases z : F.P b with
      | none => rfl
      | some u => have := g.sub b u z; rw [un b o' q] at this; cases this
    · obtain ⟨_, _, _, z2, _⟩ := g.pot b z
      rw [un b o' q] at z2; cases z2
    · have e := uT_inj z
      obtain ⟨v, hv⟩ := dt b o' q
      intro q2 ps bo sc cl pm c ctv e2
      rw [← e] at e2
      rw [e2] at hv
      cases hv
  | none =>
    by_cases hb : b ∈ fs
    · rw [capS0_f q hb] at h
      obtain ⟨n, js, l⟩ := hf b hb
      obtain ⟨x, pm, ctv, c, cs, _, h1, h2, _⟩ := id l.ex
      refine ⟨by rw [trk_none q]; exact h, l.un, fun z => ?_, fun ps z => ?_, fun ob z => ?_⟩
      · obtain ⟨_, _, _, z2, _⟩ := g.pot b z
        rw [h1] at z2; cases z2
      · rw [h1] at h; cases h; cases z
      · subst z
        intro q2 ps bo sc cl pm' c' ctv' e2
        have k := loc_cod l h q2 ps bo sc cl pm' c' ctv' e2
        have tn : t c' = none := by
          cases z : t c' with
          | none => rfl
          | some o' => rw [un c' o' z] at k; cases k
        rw [trk_none tn]; exact k
    · unfold capS0 at h
      rw [q] at h
      have h : (if b ∈ fs then H b else none) = some o := h
      rw [if_neg hb] at h
      cases h
theorem cap_rep0 (r : RelE K B F H σ E) (co : CaptOk X σ t) (un : ∀ b o, t b = some o → H b = none) (le : F.Le (plusF (capS0 t H fs) F)) {v : V} {c : Cl} {d : D} (h : RepC K X F H v c) (hfs : ∀ f n js, v = .ref f → c = .loc n js → f ∈ fs) (hd : captD E c = some d) : Rep K (plusF (capS0 t H fs) F) v d := by
  cases h with
  | still rv => cases hd; exact rv.mono le
  | @loc f n js l =>
    have hd : (slotsD E js).map (.clo n) = some d := hd
    obtain ⟨ds, hds, rfl⟩ := Option.map_eq_some_iff.mp hd
    obtain ⟨ws, k1, k2, k3⟩ := slots_rep r js ds hds
    obtain ⟨x, pm, ctv, c, cs, hx, h1, h2, hl, nd, nn, cp⟩ := id l.ex
    have tf : t f = none := by
      cases z : t f with
      | none => rfl
      | some o' => rw [un f o' z] at h1; cases h1
    have jl : js.length = x.ns.length := by
      have q := congrArg List.length cp.at_
      rwa [List.length_map, List.length_map] at q
    refine .clo hx (by rw [plus_some (by rw [capS0_f tf (hfs f n js rfl rfl)]; exact h1)]) hl nd (fun p hp => ?_) (by omega) (k1.mono le)
    obtain ⟨i, hi, rfl⟩ := List.mem_iff_getElem.mp hp
    rw [List.length_zip] at hi
    have i1 : i < cs.length := by omega
    have i2 : i < ws.length := by omega
    have i3 : i < x.ns.length := by omega
    have i4 : i < js.length := by omega
    obtain ⟨c2, o, u, q1, q2, q3, q4⟩ := co (x.ns.zip cs) x.ns js cp i x.ns[i] js[i] ws[i] (List.getElem?_eq_getElem i3) (List.getElem?_eq_getElem i4) (k3 i _ _ (List.getElem?_eq_getElem i4) (List.getElem?_eq_getElem i2))
    obtain ⟨c3, a1, a2⟩ := zip_at (cs := cs) nn hl (List.getElem?_eq_getElem i3)
    rw [a2] at q1
    cases q1
    rw [List.getElem?_eq_getElem i1] at a1
    cases a1
    refine ⟨o, u, ?_, q3, ?_⟩
    · rw [List.getElem_zip]
      exact plus_some (capS0_t q2)
    · rw [List.getElem_zip]
      exact q4
theorem cap_reps0 (r : RelE K B F H σ E) (co : CaptOk X σ t) (un : ∀ b o, t b = some o → H b = none) (le : F.Le (plusF (capS0 t H fs) F)) :
    ∀ {vs : List V} {cs : List Cl} {ds : List D}, RepCs K X F H vs cs → (∀ f n js, (V.ref f, Cl.loc n js) ∈ vs.zip cs → f ∈ fs) → captL E cs = some ds → Reps K (plusF (capS0 t H fs) F) vs ds
  | _, _, ds, .nil, _, h => by cases h; exact .nil
  | _, _, ds, .cons (a := v) (b := c) (l₁ := vs) (l₂ := cs) h rs, hf, hd => by
    unfold captL at hd
    cases h1 : captD E c with
    | none => rw [h1] at hd; cases hd
    | some d =>
      cases h2 : captL E cs with
      | none => rw [h1, h2] at hd; cases hd
      | some es =>
        rw [h1, h2] at hd
        cases hd
        exact .cons (cap_rep0 r co un le h (fun f n js e1 e2 => hf f n js (by rw [e1, e2]; exact List.mem_cons_self)) h1) (cap_reps0 r co un le rs (fun f n js hm => hf f n js (List.mem_cons_of_mem _ hm)) h2)
/-- the lambdas of the running frame among the listed -/
def fsOf : List V → List Cl → List Addr
  | .ref f :: vs, .loc _ _ :: cs => f :: fsOf vs cs
  | _ :: vs, _ :: cs => fsOf vs cs
  | _, _ => []
theorem fsOf_mem : ∀ {vs : List V} {cs : List Cl}, RepCs K X F H vs cs → (∀ f ∈ fsOf vs cs, ∃ n js, LocC X F H f n js ∧ (V.ref f, Cl.loc n js) ∈ vs.zip cs) ∧ ∀ f n js, (V.ref f, Cl.loc n js) ∈ vs.zip cs → f ∈ fsOf vs cs
  | _, _, .nil => ⟨fun _ h => (nomatch h), fun _ _ _ h => (nomatch h)⟩
  | _, _, .cons (a := v) (b := c) (l₁ := vs) (l₂ := cs) h r => by
    obtain ⟨k1, k2⟩ := fsOf_mem r
    cases h with
    | @still _ d0 rv =>
      have e : fsOf (v :: vs) (.still d0 :: cs) = fsOf vs cs := by cases v <;> rfl
      rw [e]
      refine ⟨fun f hf => ?_, fun f n js hm => ?_⟩
      · obtain ⟨n, js, a, b⟩ := k1 f hf
        exact ⟨n, js, a, List.mem_cons_of_mem _ b⟩
      · rcases List.mem_cons.mp hm with z | z
        · cases z
        · exact k2 f n js z
    | @loc f n js l =>
      refine ⟨fun f' hf => ?_, fun f' n' js' hm => ?_⟩
      · rcases List.mem_cons.mp hf with z | z
        · subst z; exact ⟨n, js, l, List.mem_cons_self⟩
        · obtain ⟨n', js', a, b⟩ := k1 f' z
          exact ⟨n', js', a, List.mem_cons_of_mem _ b⟩
      · rcases List.mem_cons.mp hm with z | z
        · cases z; exact List.mem_cons_self
        · exact List.mem_cons_of_mem _ (k2 f' n' js' z)
theorem ext_cap0 (e : Ext F0 H0 F H) (un : ∀ b o, t b = some o → H b = none) (dt : ∀ b o, t b = some o → ∃ v, o.data = .cell v) (hf : ∀ f ∈ fs, ∃ n js, LocC X F H f n js) (hn : ∀ f ∈ fs, NT H0 f) : Ext F0 H0 (plusF (capS0 t H fs) F) (Trk t H) := by
  obtain ⟨gd, le⟩ := plus_good (trk_good e.good un) (capS0_ok (fs := fs) e.good un dt hf)
  refine ⟨gd, e.mono.trans le.p, e.monoT, fun a o h nt ntb => ?_, fun a h => ?_⟩
  · have h1 := e.keep a o h nt ntb
    have tn : t a = none := by
      cases z : t a with
      | none => rfl
      | some o' => rw [un a o' z] at h1; cases h1
    rw [trk_none tn]; exact h1
  · cases q : capS0 t H fs a with
    | none =>
      rcases h with h | h
      · exact e.fresh a (.inl (by rw [plus_none q] at h; exact h))
      · exact e.fresh a (.inr h)
    | some o =>
      refine .inr (.inr ?_)
      cases z : t a with
      | none =>
        by_cases hb : a ∈ fs
        · exact hn a hb
        · unfold capS0 at q
          rw [z] at q
          have q : (if a ∈ fs then H a else none) = some o := q
          rw [if_neg hb] at q; cases q
      | some o' =>
        intro u hu
        by_cases ht : ∃ ps, u = .tbl ps
        · exact ht
        · refine False.elim ?_
          by_cases t0 : F0.T a
          · obtain ⟨x, y, w, _⟩ := (e.good.pot a (e.monoT a t0)).2
            rw [un a o' z] at w; cases w
          · have := e.keep a u hu t0 fun ps hq => ht ⟨ps, hq⟩
            rw [un a o' z] at this; cases this
end
/-- the cells stand still from now on -/
theorem un_trk {X : Cx} {pins : List (Addr × Obj)} {σ : L2.St} {H : Hp} {s : Shared} (I : Inv X pins σ H s) (fn : ∀ y, X.fn y = true) : Un X.fs X.ex X.H_0 (Trk (cellT X s.heap) H) X.s_0.heap s.heap := by
  have tok := cellT_ok I
  have new : ∀ {b : Addr} {o : Obj}, X.s_0.heap.get? b = some o → cellT X s.heap b = none := fun {b o} h => cellT_none fun y hy => by
    have h1 := I.ok.cab y b (fn y) hy
    exact absurd (Heap.lt_size h) (Nat.not_lt.mpr h1)
  refine ⟨fun b o h n hf hx => I.base.keep b o h n hf hx, fun b o h n hf hx => I.base.slot b o h n hf hx, fun b o h n hx => ?_, I.base.there, fun b xs h => ?_, fun b o v h => ?_, fun b ps h => ?_⟩
  · rw [trk_none (new h)]; exact I.base.free b o h n hx
  · have h1 := I.base.tups b xs h
    rw [trk_none (tok.nn h1)]; exact h1
  · have h1 := I.base.frzs b o v h
    rw [trk_none (tok.nn h1)]; exact h1
  · obtain ⟨m, h1⟩ := I.base.tbls b ps h
    exact ⟨m, by rw [trk_none (tok.nn h1)]; exact h1⟩
/-- a def's promise: it tells a new list of one's own -/
def spL (K : PySem.W.Frag) (f : List D → Tree (List D)) : Sp := fun vs H Q _ => ∃ F ds, Good F H ∧ Reps K F vs ds ∧ (f ds).all fun es => ∀ a xs F' H', Ext F H F' H' → H' a = some (.lst xs) → F'.P a = none → ¬ F'.T a → NT H a → Reps K F' xs es → Q (.ref a) H'
def mDefK (np n : Nat) (m : En → Tree (List D)) : List D → Tree (List D) := fun ds => if ds.length = np then m (En.start n ds) else fail
section
variable {P : Program} {w : World} {K : PySem.W.Frag} {mg : Str → Option Value} {base : Heap}
theorem spL_len {np n : Nat} {m : En → Tree (List D)} {vs : List V} {H : Hp} {Q : VK} {E : XK} (h : spL K (mDefK np n m) vs H Q E) : vs.length = np := by
  obtain ⟨F, ds, g, r, q⟩ := h
  unfold mDefK at q
  split at q
  · rename_i hl; rw [r.length]; exact hl
  · exact q.elim
theorem def_okK {x qual : Str} {st : Stmt} {f : Addr} {fd : FuncData} {N ps : List Str} {k : Nat} {m : En → Tree (List D)} (np n : Nat) (F : Fun K x qual st f fd) (S : FnScope N ps (defScope st)) (hn : N.length = n) (hp : ps.length = np)
    (hbody : ∀ (cdv : Value) (A : Around) (outer : List Env) (s : Shared) (H : Hp) (E : XK), fd.code = cdv → Gd A → Room k (A.deeper (envOfC qual (defScope st) s.heap.objs.size f cdv)) →
      SBK (cxOf CX0 P w K mg base N qual (defScope st) f cdv A outer s H E).nox (defBody st) m) : FnG P w K mg base (k + 1) f fd ps (spL K (mDefK np n m)) := by
  subst hn hp
  obtain ⟨oc, od, kV, dc, pm, an, cdv, ct, sl, rfl, lk, hcd⟩ := F.ex
  refine ⟨fun vs H Q E h => spL_len h, fun A over s H args us vs Q E hG hr e0 bd r hsp => ?_⟩
  have n1 : vs.length = ps.length := spL_len hsp
  have inK : K.In s.heap := e0.mod.kin.keeps fun b o e => (e0.bs b o e).1
  have room := e0.mod.nolimit.keeps (h' := s.heap) fun b o e => (e0.bs b o e).1
  have names : ∀ y ∈ ps.zip us, (defScope st).names.lookup y.1 = some .local ∨
      ((defScope st).names.lookup y.1 = some .cell ∧ ((cellsFrom (s.heap.objs.size + 1) (defScope st).names []).lookup y.1).isSome = true) := by
    intro ⟨n, v⟩ hy
    exact (S.par n (List.of_mem_zip hy).1).imp id fun q => ⟨q, PySem.W.cellsFrom_some _ _ _ (.inl q)⟩
  refine codeAny_call_function hr.depth (inK _ _ lk) rfl S.co S.gen rfl
    (PySem.W.codeRec_of inK hcd) (bd _ _ _ _ ?_)
  refine wpAny_newFunctionEnv_cells S.kind names
    fun env he s1 y => ?_
  cases he
  refine ⟨room.keeps y.toInCall.keep, codeAny_func ?_⟩
  have hb := hbody cdv A over s H E rfl hG (hr.deeper _)
  have J := inv_start (CX := CX0) (E := E) S hr.hd e0 n1 r y
  obtain ⟨F1, ds, g, rr, q⟩ := hsp
  refine wpAny_mono (hb.ps.run [] s1 (start N vs) H (fun v σ' H' => ∀ t, CaptOk (cxOf CX0 P w K mg base N qual (defScope st) f cdv A over s H E).nox σ' t → (∀ b o, t b = some o → H' b = none) → (∀ b o, t b = some o → ∃ v, o.data = .cell v) → Q v (Trk t H')) (J.wish _) ⟨F1, H, F1, En.start N.length ds, Ext.refl g, rel_start rr N, ?_⟩)
    (fun fl s' hs => ?_) fun e s' hs => False.elim hs
  · unfold mDefK at q
    split at q
    · refine Tree.all_mono (fun es k => fun σ' F' H' E' B L ws cs ex rl nt hL nP nT rep nw hc t co un dt => ?_) q
      obtain ⟨f1, f2⟩ := fsOf_mem rep
      have hf : ∀ f ∈ fsOf ws cs, ∃ n js, LocC _ F' H' f n js := fun f hf => let ⟨n, js, a, _⟩ := f1 f hf; ⟨n, js, a⟩
      have ee := ext_cap0 ex un dt hf fun f hf => let ⟨n, js, _, b⟩ := f1 f hf; nw f n js b
      obtain ⟨gd, le⟩ := plus_good (trk_good ex.good un) (capS0_ok (fs := fsOf ws cs) ex.good un dt hf)
      have tL : t L = none := by
        cases z : t L with
        | none => rfl
        | some o' => rw [un L o' z] at hL; cases hL
      refine k L ws _ _ ee (by rw [trk_none tL]; exact hL) ?_ nT nt (cap_reps0 rl co un le rep f2 hc)
      have : capS0 t H' (fsOf ws cs) L = none := by
        cases z : capS0 t H' (fsOf ws cs) L with
        | none => rfl
        | some o =>
          by_cases hb : L ∈ fsOf ws cs
          · obtain ⟨n, js, a, _⟩ := f1 L hb
            obtain ⟨x, pm, ctv, c, cs, _, h1, _⟩ := a.ex
            rw [hL] at h1; cases h1
          · unfold capS0 at z
            rw [tL] at z
            have z : (if L ∈ fsOf ws cs then H' L else none) = some o := z
            rw [if_neg hb] at z; cases z
      rw [plus_none this]; exact nP
    · exact q.elim
  · cases fl with
    | brk => exact False.elim hs
    | cont => exact False.elim hs
    | next => exact False.elim hs
    | ret u =>
      obtain ⟨v, σ', H', J', rv, q⟩ := hs
      have tok := cellT_ok J'
      exact ⟨v, _, J'.os, J'.bare, un_trk J' (fun _ => rfl), trk_hok J'.hok tok, rv, q _ (capt_of J') tok.un (cellT_data J')⟩
/-- the promise as one of still data -/
def mLstF (f : List D → Tree (List D)) : List D → Tree D := fun ds => (f ds).bind fun es => leaf (.lst es)
theorem FnG.ofL {k : Nat} {f : Addr} {fd : FuncData} {ps : List Str} {fn : List D → Tree (List D)} (F : FnG P w K mg base k f fd ps (spL K fn)) : FnG P w K mg base k f fd ps (spF K (mLstF fn)) := by
  have cv : ∀ vs H Q E, spF K (mLstF fn) vs H Q E → spL K fn vs H Q E := fun vs H Q E ⟨F1, ds, g, r, q⟩ => ⟨F1, ds, g, r, Tree.all_mono (fun es k a xs F' H' e h n t nt rs => k (.ref a) (F'.add a (.lst xs)) H' (e.freeze h n t nt) (.lst upd_same (rs.mono (Fz.le_add n)))) (Tree.all_bind.mp q)⟩
  exact ⟨fun vs H Q E h => F.many vs H Q E (cv vs H Q E h), fun A over s H args us vs Q E hG hr e0 bd r h => F.goes A over s H args us vs Q E hG hr e0 bd r (cv vs H Q E h)⟩
structure CalL (P : Program) (w : World) (K : PySem.W.Frag) (mg : Str → Option Value) (base : Heap) (k : Nat) (x : Str) (fn : List D → Tree (List D)) : Prop where
  ex : ∃ (f : Addr) (fd : FuncData) (ps : List Str), FnG P w K mg base k f fd ps (spL K fn) ∧ mg x = some (.ref f) ∧ PySem.W.keepIn K (.ref f) = true ∧ Binds K fd ps []
end
section
variable {X : Cx} {k j : Nat} {x : Str} {fn : List D → Tree (List D)} {p pos : Pos} {e : Expr} {es : List Expr} {ma : En → Tree (List D)}
def mAL (fn : List D → Tree (List D)) (ma : En → Tree (List D)) : En → Tree (List D) := fun E => (ma E).bind fn
theorem sl_callL (c : CalL X.prog X.w X.K X.mg X.base k x fn) (hG : Gd X.A) (hr : Room j X.A) (hk : k ≤ j) (hg : Gl X x) (ha : SA X (e :: es) ma)
    (hdb : (x == ("__debug__" : Str)) = false := by decide) (he : starEach (e :: es) X.env = (false, eval e X.env) :: starEach es X.env := by rfl) (hpl : (backTo pos (starEach es X.env)).any (·.1) = false := by rfl) :
    SL X (.Call (.Name x p) (e :: es) [] pos) (mAL fn ma) := by
  obtain ⟨f, fd, ps, F, hm, kp, hb⟩ := c.ex
  refine ⟨PE.weak (t := fun σ H Q => tA X.K ma σ H fun vs H1 => spL X.K fn vs H1 Q E0) ⟨fun pins s σ H Q I h => ?_⟩ fun σ H Q ⟨B, F, E, g, rl, q⟩ => ?_⟩
  · refine wpAny_Call_Name_kw (ld_glob I hg hm ?_ hdb)
    refine PySem.W.callWith_K (h₀ := X.base) I.ok.mod.kin kp (thn (ha.pa.run pos pins s σ H _ I h) fun us s1 ⟨vs, H1, I1, r, q⟩ => ⟨I1.kIn, ?_⟩) he hpl
    have hl := r.length.symm.trans (F.many _ _ _ _ q)
    have bd := hb s1 us I1.kIn (by rw [List.append_nil]; exact hl)
    rw [List.append_nil] at bd
    refine wpAny_call (codeAny_mono (goG F hG (hr.mono hk) I1 bd r q) fun r s' hq => ?_)
    cases r with
    | error e => exact False.elim hq
    | ok fl => cases fl <;> first | exact hq | exact False.elim hq
  · refine ⟨B, F, E, g, rl, Tree.all_mono (fun ds k vs F1 H1 e1 p1 => ⟨F1, ds, e1.good, p1, Tree.all_mono (fun es k2 a xs F2 H2 e2 h n t nt rs => ?_) k⟩) (Tree.all_bind.mp q)⟩
    refine k2 a xs F2 H2 (e1.trans e2) h n t ?_ rs
    by_cases t0 : F.T a
    · exact absurd (e2.monoT _ (e1.monoT _ t0)) t
    · exact e1.back nt t0
end
end R

set_option Elab.async false
set_option linter.all false
set_option maxRecDepth 100000
set_option maxHeartbeats 2000000
/-! own exceptions with a value as values: C(e), C(value=e), x.value, isinstance(x, C) -/
namespace PySem.HandSPX
open PySem PySem.Spec PySem.Calls PyProof.Rows
section
variable {M : Model} {A : Around} {E : Value → Shared → Prop} {h : Heap} {g : Array GenState} {d : Drawn} {t : Nat} {os : OsState} {kw : List (Str × Value)}
variable {nm q : Str} {C N : Addr} {bs bm bmB : List Value} {hdct : Bool} {sn : List Str} {sub : List Value} {ab : Bool} {col : Option Bool} {dd : Option Addr} {k0 k1 k2 k3 k5 : Option Value} {B newId initId : String}
theorem check_new_kw (F : ExcBaseFacts B newId initId bmB) (hT : ∀ X : String, bm.contains (.type X) = bmB.contains (.type X)) {rest : List Value} {Q : Unit → Shared → Prop}
    (hC : h.get? C = some (excClassObj nm q C N bs bm hdct sn sub ab col dd k0 k1 k2 k3 k5 newId)) (hq : Q () ⟨h, g, d, t, os⟩) : wpAny M A (checkBuiltinCall newId ⟨.ref C :: rest, kw⟩) Q E ⟨h, g, d, t, os⟩ := by
  have hcont : (Value.ref C :: bm).contains (.type B) = true := by rw [List.contains_cons, hT, F.hasB, Bool.or_true]
  have hstar := F.noStar
  simp only [checkBuiltinCall, F.newKind, F.newSplit, F.newRow]
  repeat (first | refine wpAny_loadPart_at hC ?_ | (refine wpAny_isSubtype_exc hC ?_; rw [hcont]) | refine wpAny_staticBase_exc hC ?_ | refine wpAny_madeBy_exc hC ?_ | simp only [bne_self_eq_false, Bool.false_eq_true, if_false] | wp_step)
  exact hq
end
section
variable {prog : Program} {w : World} {A : Around} {E : Value → Shared → Prop} {R : Result → Shared → Prop} {h : Heap} {g : Array GenState} {d : Drawn} {t : Nat} {os : OsState} {kw : List (Str × Value)}
variable {nm q : Str} {C N : Addr} {bs bm bmB : List Value} {hdct : Bool} {sn : List Str} {sub : List Value} {ab : Bool} {col : Option Bool} {dd : Option Addr} {k0 k1 k2 k3 k5 : Option Value} {B newId initId : String}
theorem new_kw (F : ExcBaseFacts B newId initId bmB) (hT : ∀ X : String, bm.contains (.type X) = bmB.contains (.type X)) {rest : List Value}
    (hC : h.get? C = some (excClassObj nm q C N bs bm hdct sn sub ab col dd k0 k1 k2 k3 k5 newId))
    (hq : R (.ok (.ret (.ref (h.objs.size + 1)))) ⟨(h.push { cls := .type "tuple", data := .seq rest.toArray }).push
      { cls := .ref C, data := .fields #[.ref h.objs.size, .none, .none, .none, .bool false, .none] }, g, d, t, os⟩) (hrest : rest.length ≤ sizeLine) :
    codeAny (model prog w) A (.builtin newId ⟨.ref C :: rest, kw⟩) R ⟨h, g, d, t, os⟩ := by
  have hends := F.ends
  have hcB : (Value.ref C :: bm).contains (.type B) = true := by rw [List.contains_cons, hT, F.hasB, Bool.or_true]
  have hcA : (Value.ref C :: bm).contains (.type "AttributeError") = false := by rw [List.contains_cons, hT, F.noAttr]; rfl
  have hcN : (Value.ref C :: bm).contains (.type "NameError") = false := by rw [List.contains_cons, hT, F.noName]; rfl
  refine codeAny_builtinAt F.entry ?_
  unfold Builtin.«BaseException.__new__»
  refine wpAt_bind ?_
  show wpAt _ _ _ (stack >>= _) _ _ _
  refine wpAt_bind (wpAt_stack fun p below => wpAt_of_wpAny ?_)
  wp_walk
  refine wpAt_of_wpAny ?_
  rw [F.owner]
  repeat (first | with_reducible refine wpAny_madeHere_exc F.canon hC ?_ | with_reducible refine wpAny_loadPart_at hC ?_ | (with_reducible refine wpAny_isSubtype_exc hC ?_; first | rw [hcB] | rw [hcA] | rw [hcN]) | wp_step)
  show R _ _
  rw [Heap.size_push]
  exact hq
theorem type_call_kw (F : ExcBaseFacts B newId initId bmB) (hT : ∀ X : String, bm.contains (.type X) = bmB.contains (.type X)) {rest : List Value} {fI : Addr} {Q : Fin → Shared → Prop}
    (hC : h.get? C = some (excClassObj nm q C N bs bm hdct sn sub ab col dd k0 k1 k2 k3 k5 newId))
    (hi : W.Looks (model prog w) h (typeLookup (.ref C) "__init__") (some (.ref fI))) (hb : ∀ self, W.Looks (model prog w) h (bindSpecial (.ref fI) self) (.ref fI, [self])) (hrest : rest.length ≤ sizeLine)
    (hq : codeAny (model prog w) A (.call (.ref fI) ⟨.ref (h.objs.size + 1) :: rest, kw⟩)
      (fun r s' => match r with | .ok (.ret v) => v = .none ∧ Q (.done (.ret (.ref (h.objs.size + 1)))) s' | .ok _ => False | .error e => E e s')
      ⟨(h.push (W.kdv_tup rest)).push (excO C h.objs.size), g, d, t, os⟩) :
    wpAny (model prog w) A (Builtin.«type.__call__» ⟨.ref C :: rest, kw⟩) Q E ⟨h, g, d, t, os⟩ := by
  repeat (first | with_reducible refine wpAny_loadPart_at hC ?_ | with_reducible refine wpAny_madeBy_exc hC ?_ | wp_step)
  refine codeAny_call_builtin_code (Code.quiet_builtin _ F.quiet) (check_new_kw F hT hC ?_)
  refine new_kw F hT hC ?_ hrest
  show wpAny _ _ _ _ _ _
  have k : ∀ b o, h.get? b = some o → ((h.push (W.kdv_tup rest)).push (excO C h.objs.size)).get? b = some o := fun b o e => Heap.get?_push_of_some _ (Heap.get?_push_of_some _ e)
  have hC₁ := k _ _ hC
  have hget : ((h.push (W.kdv_tup rest)).push (excO C h.objs.size)).get? (h.objs.size + 1) = some (excO C h.objs.size) := by heap_get
  have hcC : (Value.ref C :: bm).contains (.ref C) = true := by simp
  have i1 := hi.keeps k
  have b1 := (hb (.ref (h.objs.size + 1))).keeps k
  unfold isInstance
  repeat (first | with_reducible refine wpAny_loadPart_at hget ?_ | (with_reducible refine wpAny_isSubtype_exc hC₁ ?_; rw [hcC]) | wp_step)
  show wpAny _ _ (typeLookup (.ref C) _) _ _ _
  refine i1.at ?_
  refine wpAny_holding (wpAny_bind (b1.at ?_))
  refine wpAny_bind (wpAny_call (codeAny_mono hq fun r s' z => ?_))
  rcases r with e | (v | _ | _ | _) <;> first | exact z | exact z.elim | skip
  obtain ⟨rfl, z⟩ := z
  first
    | exact wpAny_pure (wpAny_pure z)
    | (wp_walk; exact z)
theorem call_kw (F : ExcBaseFacts B newId initId bmB) (hT : ∀ X : String, bm.contains (.type X) = bmB.contains (.type X)) {rest : List Value} {fI : Addr}
    (hC : h.get? C = some (excClassObj nm q C N bs bm hdct sn sub ab col dd k0 k1 k2 k3 k5 newId))
    (hi : W.Looks (model prog w) h (typeLookup (.ref C) "__init__") (some (.ref fI))) (hb : ∀ self, W.Looks (model prog w) h (bindSpecial (.ref fI) self) (.ref fI, [self])) (hrest : rest.length ≤ sizeLine)
    (hq : codeAny (model prog w) (A.under (.builtin "type.__call__" ⟨.ref C :: rest, kw⟩)) (.call (.ref fI) ⟨.ref (h.objs.size + 1) :: rest, kw⟩) (W.InitBack (h.objs.size + 1) R)
      ⟨(h.push (W.kdv_tup rest)).push (excO C h.objs.size), g, d, t, os⟩) :
    codeAny (model prog w) A (.call (.ref C) ⟨rest, kw⟩) R ⟨h, g, d, t, os⟩ := by
  have f1 := tc_lookup
  have f2 := tc_bind (.ref C)
  have hTy : (⟨h, g, d, t, os⟩ : Shared).TypeIs (.ref C) "type" := ⟨_, hC, rfl⟩
  refine codeAny_of_tree ?_
  show wpAny _ _ (callAny (.ref C) _) _ _ _
  repeat (any_goals (first | assumption | with_reducible refine wpAny_loadPart_at hC ?_ | wp_step))
  refine ⟨rfl, ?_⟩
  refine codeAny_call_builtin_at (Code.quiet_builtin _ (by decide +kernel)) entry_typeCall (wpAny_check_type_call_sub hC (type_call_kw F hT hC hi hb hrest ?_))
  refine codeAny_mono hq fun r s' z => ?_
  rcases r with e | (v | _ | _ | _) <;> exact z
end
end PySem.HandSPX

set_option Elab.async false
set_option linter.all false
set_option maxRecDepth 100000
set_option maxHeartbeats 2000000
/-! own exceptions with a value as values: C(e), C(value=e), x.value -/

namespace R
open PySem PySem.Spec PyProof.Rows L2
open Tree (leaf fail)
/-- a class whose __init__(self, value) says self.value = value -/
structure VCls (P : Program) (w : World) (K : PySem.W.Frag) (mg : Str → Option Value) (base : Heap) (x : Str) (CA : Addr) : Prop where
  T : OexC K CA
  no : PySem.W.findIn K (.ref CA) "value" = some none
  at_ : mg x = some (.ref CA)
  ini : ∃ fI fd, PySem.W.findIn K (.ref CA) "__init__" = some (some (.ref fI)) ∧ PySem.W.typeIn K (.ref fI) = some (.type "function") ∧ FnOk P w K mg base CX0 1 fI fd ["self", "value"] (spI K) ∧ Binds K fd ["self", "value"] [] ∧
    ∀ (s : Shared) (a v : Value), K.In s.heap → BindsTo s fd ⟨[a], [("value", v)]⟩ ((["self", "value"] : List Str).zip [a, v])
theorem uX_eq {e C : Addr} {d : Option Addr} : uX e C d = exo e C d := rfl
theorem uD_eq {dx : Addr} {fs : List (Str × V)} : uD dx fs = exd dx fs := rfl
theorem upd3 {H1 : Hp} {a dx : Addr} {o0 o1 o2 : HO} : upd (upd (upd H1 a o0) dx o1) a o2 = upd (upd H1 dx o1) a o2 := by
  funext b
  by_cases hb : b = a
  · subst hb; rw [upd_same, upd_same]
  · rw [upd_ne hb, upd_ne hb]
    by_cases hd : b = dx
    · subst hd; rw [upd_same, upd_same]
    · rw [upd_ne hd, upd_ne hd, upd_ne hb]
def tInst (CA : Addr) (ta : TA) : TE := fun σ H Q => ta σ H fun vs H1 => ∃ v, vs = [v] ∧ ∀ a d, H1 a = none → H1 d = none → d ≠ a → Q (.ref a) (upd (upd H1 d (uD d [("value", v)])) a (uX a CA (some d)))
section
variable {X : Cx} {x : Str} {CA : Addr} {e : Expr} {ta : TA} {p pos : Pos}
theorem inst_go {pins : List (Addr × Obj)} {σ : L2.St} {H1 : Hp} {hp : Heap} {g : Array GenState} {dr : Drawn} {tk : Nat} {os : OsState} {Q : VK} {rest : List Value} {kw : List (Str × Value)} {v : V} {u : Value} {fI : Addr} {fd : FuncData}
    (T : OexC X.K CA) (no : PySem.W.findIn X.K (.ref CA) "value" = some none) (iC : PySem.W.findIn X.K (.ref CA) "__init__" = some (some (.ref fI))) (tI : PySem.W.typeIn X.K (.ref fI) = some (.type "function")) (F1 : FnOk X.prog X.w X.K X.mg X.base CX0 1 fI fd ["self", "value"] (spI X.K))
    (hr : Room 2 X.A) (I1 : Inv X pins σ H1 ⟨hp, g, dr, tk, os⟩) (rv : RelV v u) (hlen : rest.length ≤ sizeLine) (bd : ∀ (s : Shared) (a : Value), X.K.In s.heap → BindsTo s fd ⟨a :: rest, kw⟩ ((["self", "value"] : List Str).zip [a, u]))
    (q1 : ∀ a d, H1 a = none → H1 d = none → d ≠ a → Q (.ref a) (upd (upd H1 d (uD d [("value", v)])) a (uX a CA (some d)))) :
    codeAny (model X.prog X.w) X.A (.call (.ref CA) ⟨rest, kw⟩) (fun r s' => match r with
      | .ok (.ret u) => EP X pins σ Q u s'
      | _ => False) ⟨hp, g, dr, tk, os⟩ := by
  obtain ⟨nm, q, N, bs, bm, sn, sub, ab, col, dd, k0, k1, k2, k3, k5, hC, hbm⟩ := T.cls
  have hsz : hp.objs.size ≤ hp.objs.size + 1 := Nat.le_succ _
  have hn : H1 (hp.objs.size + 1) = none := I1.hok.fresh hsz
  have kk : ∀ b o, hp.get? b = some o → ((hp.push (PySem.W.kdv_tup rest)).push (PySem.HandSPX.excO CA hp.objs.size)).get? b = some o := fun b o e => Heap.get?_push_of_some _ (Heap.get?_push_of_some _ e)
  have hget : ((hp.push (PySem.W.kdv_tup rest)).push (PySem.HandSPX.excO CA hp.objs.size)).get? (hp.objs.size + 1) = some (PySem.HandSPX.excO CA hp.objs.size) := by heap_get
  have I2 : Inv X pins σ (upd H1 (hp.objs.size + 1) (exo (hp.objs.size + 1) CA none)) ⟨(hp.push (PySem.W.kdv_tup rest)).push (PySem.HandSPX.excO CA hp.objs.size), g, dr, tk, os⟩ :=
    I1.laid (t' := tk) (a := hp.objs.size + 1) (o := exo (hp.objs.size + 1) CA none) (h' := (hp.push (PySem.W.kdv_tup rest)).push (PySem.HandSPX.excO CA hp.objs.size)) kk hsz (exo_ok hget)
  have r2 : Vals [V.ref (hp.objs.size + 1), v] [Value.ref (hp.objs.size + 1), u] := .cons rfl (.cons rv .nil)
  have hq : spI X.K [V.ref (hp.objs.size + 1), v] (upd H1 (hp.objs.size + 1) (exo (hp.objs.size + 1) CA none)) (fun z H2 => z = .non ∧ Q (.ref (hp.objs.size + 1)) H2) (fun _ _ _ => False) :=
    ⟨hp.objs.size + 1, CA, v, rfl, T, no, upd_same, fun dx n ne => ⟨rfl, by
      rw [upd_ne ne] at n
      rw [upd3]
      exact q1 _ _ hn n ne⟩⟩
  refine PySem.HandSPX.call_kw F.excBase_ValueError (fun Y => PySem.HandSPX.refsVE_contains Y bm hbm) (I1.kIn _ _ hC) (PySem.W.looks_findIn I1.kIn iC) (fun self => PySem.W.bind_fn I1.kIn self tI) hlen
    (codeAny_mono (F1.run _ X.stack _ _ ⟨Value.ref (hp.objs.size + 1) :: rest, kw⟩ [Value.ref (hp.objs.size + 1), u] _ _ (fun _ _ _ => False) (hr.make CA rest kw) (I2.env0.make CA rest kw) (bd _ _ I2.kIn) r2 hq) fun r s' hq' => ?_)
  cases r with
  | error er =>
    obtain ⟨_, _, _, _, _, _, _, _, _, _, _, _, z⟩ := hq'
  | ok fl =>
    cases fl with
    | ret u2 =>
      obtain ⟨z, H2, I3, rz, ez, q2⟩ := I2.after hq'
      subst ez
      exact ⟨rz, .ref (hp.objs.size + 1), H2, I3, rfl, q2⟩
    | next => exact False.elim hq'
    | brk => exact False.elim hq'
    | cont => exact False.elim hq'
theorem pe_inst (c : VCls X.prog X.w X.K X.mg X.base x CA) (hr : Room 2 X.A) (hg : Gl X x) (ha : PA X (e :: []) ta) (hdb : (x == ("__debug__" : Str)) = false := by decide) (he : starEach (e :: []) X.env = (false, eval e X.env) :: starEach [] X.env := by rfl) (hpl : (backTo pos (starEach [] X.env)).any (·.1) = false := by rfl) :
    PE X (.Call (.Name x p) (e :: []) [] pos) (tInst CA ta) := by
  obtain ⟨fI, fd, iC, tI, F1, hb, hbk⟩ := c.ini
  refine ⟨fun pins s σ H Q I h => ?_⟩
  refine wpAny_Call_Name_kw (ld_glob I hg c.at_ ?_ hdb)
  refine PySem.W.callWith_K (h₀ := X.base) I.ok.mod.kin c.T.kC (thn (ha.run pos pins s σ H _ I h) fun us s1 ⟨vs, H1, I1, r1, v, ev, q1⟩ => ⟨I1.kIn, ?_⟩) he hpl
  subst ev
  obtain ⟨u, rfl, rv⟩ := vals1 r1
  obtain ⟨hp, g, dr, tk, os⟩ := s1
  refine wpAny_call (codeAny_mono (inst_go (kw := []) (rest := [u]) c.T c.no iC tI F1 hr I1 rv (by show 1 ≤ sizeLine; rw [sizeLine_eq]; omega) (fun s a k => ?_) q1) fun r s' hq => ?_)
  · exact hb s [a, u] k rfl
  · cases r with
    | error e => exact False.elim hq
    | ok fl => cases fl <;> first | exact hq | exact False.elim hq
/-- C(value=e) -/
theorem pe_instK {kws : List Keyword} {tk : TA} (c : VCls X.prog X.w X.K X.mg X.base x CA) (hr : Room 2 X.A) (hg : Gl X x) (ha : PK X kws tk)
    (hall : (backToKw pos (keywordEach kws X.env)).all (·.1.isSome) = true := by rfl) (hks : (backToKw pos (keywordEach kws X.env)).filterMap (·.1) = [(Str.ofString "value")] := by rfl) (hdb : (x == ("__debug__" : Str)) = false := by decide)
    (hpl : ((backTo pos (starEach [] X.env)).any (·.1) || (backToKw pos (keywordEach kws X.env)).any (·.1.isNone)) = false := by rfl) :
    PE X (.Call (.Name x p) [] kws pos) (tInst CA tk) := by
  obtain ⟨fI, fd, iC, tI, F1, hb, hbk⟩ := c.ini
  refine ⟨fun pins s σ H Q I h => ?_⟩
  refine wpAny_Call_Name_kw (ld_glob I hg c.at_ ?_ hdb)
  refine PySem.W.callWith_KW0 (h₀ := X.base) I.ok.mod.kin c.T.kC hall (thn (ha.run pos pins s σ H _ I h) fun us s1 ⟨vs, H1, I1, r1, v, ev, q1⟩ => ⟨I1.kIn, ?_⟩) hpl
  subst ev
  obtain ⟨u, rfl, rv⟩ := vals1 r1
  obtain ⟨hp, g, dr, tk, os⟩ := s1
  rw [hks]
  refine wpAny_call (codeAny_mono (inst_go (kw := [("value", u)]) (rest := []) c.T c.no iC tI F1 hr I1 rv (Nat.zero_le _) (fun s a k => hbk s a u k) q1) fun r s' hq => ?_)
  cases r with
  | error e => exact False.elim hq
  | ok fl => cases fl <;> first | exact hq | exact False.elim hq
def mInst (CA : Addr) (ma : En → Tree (List D)) : En → Tree D := fun E => (ma E).bind fun ds => match ds with
  | [d] => leaf (.inst CA [d])
  | _ => fail
theorem inst_rep {K : PySem.W.Frag} {B : Addr → Prop} {F : Fz} {H : Hp} {σ : L2.St} {E : En} {Q : VK} {ma : En → Tree (List D)} (g : Good F H) (rl : RelE K B F H σ E) (q : (mInst CA ma E).all fun d => ∀ v F' H', Ext F H F' H' → Rep K F' v d → Q v H') : tInst CA (tA K ma) σ H Q := by
  refine ⟨B, F, E, g, rl, Tree.all_mono (fun ds k vs F1 H1 e1 p1 => ?_) (Tree.all_bind.mp q)⟩
  cases p1 with
  | nil => exact False.elim k
  | @cons v d _ _ rd p =>
    cases p with
    | cons _ _ => exact False.elim k
    | nil =>
      have k : ∀ v F' H', Ext F H F' H' → Rep K F' v (.inst CA [d]) → Q v H' := k
      refine ⟨v, rfl, fun a dd na nd ne => ?_⟩
      have e2 := Ext.addNew (o := uD dd [("value", v)]) e1.good nd (fun ps z => by unfold uD at z; cases z) (fun ob z => by unfold uD uT at z; cases z)
      have na2 : upd H1 dd (uD dd [("value", v)]) a = none := by rw [upd_ne (Ne.symm ne)]; exact na
      have e3 := Ext.addNew (o := uX a CA (some dd)) e2.good na2 (fun ps z => by unfold uX at z; cases z) (fun ob z => by unfold uX uT at z; cases z)
      have nf2 := (e2.good.free na2).1
      refine k _ _ _ ((e1.trans e2).trans e3) (.inst (dd := dd) (v := v) upd_same ?_ (rd.mono (e2.trans e3).le))
      show upd (F1.add dd (uD dd [("value", v)])).P a _ dd = _
      rw [upd_ne ne]
      exact upd_same
theorem se_inst {ma : En → Tree (List D)} (c : VCls X.prog X.w X.K X.mg X.base x CA) (hr : Room 2 X.A) (hg : Gl X x) (ha : SA X (e :: []) ma) (hdb : (x == ("__debug__" : Str)) = false := by decide) (he : starEach (e :: []) X.env = (false, eval e X.env) :: starEach [] X.env := by rfl) (hpl : (backTo pos (starEach [] X.env)).any (·.1) = false := by rfl) :
    SE X (.Call (.Name x p) (e :: []) [] pos) (mInst CA ma) := ⟨PE.weak (pe_inst c hr hg ha.pa hdb he hpl) fun σ H Q ⟨B, F, E, g, rl, q⟩ => inst_rep g rl q⟩
theorem se_instK {kws : List Keyword} {ma : En → Tree (List D)} (c : VCls X.prog X.w X.K X.mg X.base x CA) (hr : Room 2 X.A) (hg : Gl X x) (ha : SK_ X kws ma)
    (hall : (backToKw pos (keywordEach kws X.env)).all (·.1.isSome) = true := by rfl) (hks : (backToKw pos (keywordEach kws X.env)).filterMap (·.1) = [(Str.ofString "value")] := by rfl) (hdb : (x == ("__debug__" : Str)) = false := by decide)
    (hpl : ((backTo pos (starEach [] X.env)).any (·.1) || (backToKw pos (keywordEach kws X.env)).any (·.1.isNone)) = false := by rfl) :
    SE X (.Call (.Name x p) [] kws pos) (mInst CA ma) := ⟨PE.weak (pe_instK c hr hg ha.pk hall hks hdb hpl) fun σ H Q ⟨B, F, E, g, rl, q⟩ => inst_rep g rl q⟩
/-! ### x.value -/
def mVal (cs : List Addr) (m : En → Tree D) : En → Tree D := fun E => (m E).bind fun d => match d with
  | .inst C [v] => if cs.contains C = true then leaf v else fail
  | _ => fail
theorem se_val {cs : List Addr} {m : En → Tree D} (hc : ∀ C ∈ cs, XfC X.K C ∧ PySem.W.findIn X.K (.ref C) "value" = some none) (he : SE X e m) (hb : attributeBase e "value" X.env (eval e X.env) = eval e X.env := by rfl) : SE X (.Attribute e "value" pos) (mVal cs m) := by
  refine ⟨⟨fun pins s σ H Q I ⟨B, F, E, g, rl, q⟩ => ?_⟩⟩
  refine attr_of hb (thn (he.pe.run pins s σ H (fun x H1 => ∃ F1 a C dd v d, x = .ref a ∧ Ext F H F1 H1 ∧ H1 a = some (uX a C (some dd)) ∧ H1 dd = some (uD dd [("value", v)]) ∧ Rep X.K F1 v d ∧ cs.contains C = true ∧ ∀ v' F' H', Ext F H F' H' → Rep X.K F' v' d → Q v' H') I ⟨B, F, E, g, rl, Tree.all_mono (fun d k v F1 H1 e1 rv => ?_) (Tree.all_bind.mp q)⟩) fun u s1 hh => ?_)
  · cases rv with
    | @inst a C dd w d h1 h2 r =>
      have k : (if cs.contains C = true then leaf d else fail : Tree D).all _ := k
      by_cases hm : cs.contains C = true
      · rw [if_pos hm] at k
        exact ⟨F1, a, C, dd, w, d, rfl, e1, e1.good.sub _ _ h1, e1.good.sub _ _ h2, r, hm, k⟩
      · rw [if_neg hm] at k
        exact k.elim
    | _ => exact False.elim k
  · obtain ⟨x, H1, I1, rx, F1, a, C, dd, v, d, ex, e1, h1, h2, rd, hm, k⟩ := hh
    subst ex
    obtain rfl : u = Value.ref a := rx
    obtain ⟨T, hno⟩ := hc C (List.contains_iff_mem.mp hm)
    obtain ⟨t1, ho⟩ := exo_at (d := some dd) I1.hok h1
    obtain ⟨mA, hns, hrl⟩ := exd_at I1.hok h2
    obtain ⟨od, hod, hl⟩ := lookIn_ns hns
    obtain ⟨u, hu, ru⟩ := RelO.some_of (v := v) (o := mA "value") (hrl "value")
    have J : PySem.W.InstAt s1.heap a _ C (some od) := ⟨ho, rfl, rfl, hod⟩
    exact PySem.HandSPX.exc_get I1.kIn J T.ga T.gg T.exC (PySem.W.findObj_own T.hdC hno rfl (by rw [hl, hu])) (handed_of ru) ⟨v, H1, I1.tok _, ru, k v F1 H1 e1 rd⟩
end
end R

set_option Elab.async false
set_option linter.all false
set_option maxRecDepth 100000
set_option maxHeartbeats 2000000
/-! what the printed readings of the refused laws lean on -/
namespace R
open PySem PySem.Spec PyProof.Rows L2 LamX
open Tree (leaf fail)
/-! ### suites -/
section
variable {X : Cx} {C : Nat → Value} {i : Nat} {e : Expr} {es : List Expr} {m : SuE} {ms : SuL} {pos : Pos}
def suLst (ms : SuL) : SuE := fun k v E => (ms k v E).bind fun ds => lineOk ds.length (leaf (.lst ds))
def suTup (ms : SuL) : SuE := fun k v E => (ms k v E).bind fun ds => lineOk ds.length (leaf (.tup ds))
def suCons (m : SuE) (ms : SuL) : SuL := fun k v E => (m k v E).bind fun d => (ms k v E).bind fun ds => leaf (d :: ds)
def suNil : SuL := fun _ _ => aNil
def suOf (me : En → Tree D) : SuE := fun _ _ => me
theorem sx_lst (h : SXa X C i es ms) : SXe X C i (.List es pos) (suLst ms) := by
  refine ⟨fun a ob cls d q hz hf => PE.weak (pe_lst (h.pa a ob cls d q hz hf)) fun σ H Q ⟨k, v, B, F, E, i1, g, rl, q⟩ => ?_⟩
  refine ⟨k, v, B, F, E, i1, g, rl, Tree.all_mono (fun ds kq ws F1 H1 e1 p1 => ?_) (Tree.all_bind.mp q)⟩
  obtain ⟨hl, kq⟩ := lineOk_all kq
  exact ⟨by rw [p1.length]; exact hl, fun p hp => kq (.ref p) (F1.add p (.lst ws)) _ (e1.trans (Ext.addNew e1.good hp)) (.lst upd_same (p1.mono (Fz.le_add (e1.good.free hp).1)))⟩
theorem sx_tup {x1} (h : SXa X C i es ms) : SXe X C i (.Tuple es x1 pos) (suTup ms) := by
  refine ⟨fun a ob cls d q hz hf => PE.weak (pe_tup (h.pa a ob cls d q hz hf)) fun σ H Q ⟨k, v, B, F, E, i1, g, rl, q⟩ => ?_⟩
  refine ⟨k, v, B, F, E, i1, g, rl, Tree.all_mono (fun ds kq ws F1 H1 e1 p1 => ?_) (Tree.all_bind.mp q)⟩
  obtain ⟨hl, kq⟩ := lineOk_all kq
  exact ⟨by rw [p1.length]; exact hl, fun p hp => kq (.ref p) (F1.add p (.tup ws)) _ (e1.trans (Ext.addNew e1.good hp)) (.tup (.of upd_same) (p1.mono (Fz.le_add (e1.good.free hp).1)))⟩
theorem sxa_nil' : SXa X C i [] suNil := sxa_nil
theorem sxa_cons' (ha : SXe X C i e m) (hr : SXa X C i es ms) (hs : ∀ (a : Addr) (q : List (Addr × Obj)), starEach (e :: es) (X.suite a q).env = (false, eval e (X.suite a q).env) :: starEach es (X.suite a q).env := by intros; rfl) : SXa X C i (e :: es) (suCons m ms) := sxa_cons ha hr hs
theorem sx_of' {me : En → Tree D} (h : ∀ (a : Addr) (q : List (Addr × Obj)), SE (X.suite a q) e me) : SXe X C i e (suOf me) := sx_of h
/-- return e -/
def suRet (m : SuE) : SuV := fun k v E => (m k v E).bind fun d => leaf (.rt d)
theorem su_retE (h : SXe X C i e m) : SuOk X [.Return (some e) pos] (tSuV X.K C i (suRet m)) := by
  refine fun a ob cls d q hz hf => pss_one (PS.weak (ps_ret (h.pe a ob cls d q hz hf)) fun D0 σ H ⟨k, v, F0, H0, F, E, i1, i2, i3, e, r, q⟩ => ?_)
  refine ⟨k, v, B0 H0, F, E, ⟨i1, i2, i3⟩, e.good, r, Tree.all_mono (fun d1 kq w F1 H1 e1 p1 => ?_) (Tree.all_bind.mp q)⟩
  exact (show Post X.K F0 H0 F D0 (.rt d1) from kq) w F1 H1 (e.trans e1) e1.le p1
/-- x = e -/
def suSet (i1 : Nat) (m : SuE) : SuV := fun k v E => (m k v E).bind fun d => leaf (.nx (E.put i1 d))
theorem su_setE {st : Stmt} {i1 : Nat} (h : SXe X C i e m) (hp : ∀ (a : Addr) (q : List (Addr × Obj)) (te : TE), PE (X.suite a q) e te → PS (X.suite a q) st (tAsg te (gName i1))) : SuOk X [st] (tSuV X.K C i (suSet i1 m)) := by
  refine fun a ob cls d q hz hf => pss_one (PS.weak (hp a _ _ (h.pe a ob cls d q hz hf)) fun D0 σ H ⟨k, v, F0, H0, F, E, j1, j2, j3, e, r, q⟩ => ?_)
  refine ⟨k, v, B0 H0, F, E, ⟨j1, j2, j3⟩, e.good, r, Tree.all_mono (fun d1 kq w F1 H1 e1 p1 => ?_) (Tree.all_bind.mp q)⟩
  exact (show Post X.K F0 H0 F D0 (.nx (E.put i1 d1)) from kq) _ F1 H1 (e.trans e1) e1.le ((r.ext e1).put i1 p1)
end
/-! ### defs that may raise, where they do not -/
section
variable {P : Program} {w : World} {K : PySem.W.Frag} {mg : Str → Option Value} {base : Heap} {k : Nat} {f : Addr} {fd : FuncData} {ps ks : List Str} {is : List Nat} {C : Nat → Value} {fx : List D → Tree (Res D)} {x : Str}
theorem FnOk.ofV (F : FnOk P w K mg base (L2N.CX P w) k f fd ps (spV K C fx)) : FnOk P w K mg base CX0 k f fd ps (spF K (noV fx)) := by
  have cv : ∀ vs H Q E, spF K (noV fx) vs H Q E → spV K C fx vs H Q E0 := fun vs H Q E ⟨F, ds, g, r, q⟩ => ⟨F, ds, g, r, Tree.all_mono (fun o k => by
    cases o with
    | ok d => exact k
    | ex _ _ => exact False.elim k) (Tree.all_bind.mp q)⟩
  refine ⟨fun vs H Q E h => F.len _ _ _ _ (cv vs H Q E h), fun A over s H args us vs Q E hr e0 hb hv h => ?_⟩
  refine codeAny_mono (F.run A over s H args us vs Q E0 hr e0 hb hv (cv vs H Q E h)) fun r s' hq => ?_
  cases r with
  | error e =>
    obtain ⟨_, _, _, _, _, _, _, _, _, _, _, _, z⟩ := hq
    exact z.elim
  | ok fl => cases fl <;> exact hq
theorem CalV.r (c : CalV P w K mg base k x C fx) : CalR P w K mg base k x (noV fx) := by
  obtain ⟨f, fd, ps, F, hm, kp, b⟩ := c.ex
  exact ⟨f, fd, ps, FnOk.ofV F, hm, kp, b⟩
theorem CalV.g (c : CalV P w K mg base k x C fx) : CalG P w K mg base k x (noV fx) := by
  obtain ⟨f, fd, ps, F, hm, kp, b⟩ := c.ex
  exact ⟨f, fd, ps, FnG.of (FnOk.ofV F), hm, kp, b⟩
theorem CalKV.g (c : CalKV P w K mg base k x C fx ks is) : CalKG P w K mg base k x (noV fx) ks is := by
  obtain ⟨f, fd, ps, F, hm, kp, b⟩ := c.ex
  exact ⟨f, fd, ps, FnG.of (FnOk.ofV F), hm, kp, b⟩
theorem CalKV.r (c : CalKV P w K mg base k x C fx ks is) : CalK P w K mg base k x (noV fx) ks is := by
  obtain ⟨f, fd, ps, F, hm, kp, b⟩ := c.ex
  exact ⟨f, fd, ps, FnOk.ofV F, hm, kp, b⟩
theorem CalR.g {fn : List D → Tree D} (c : CalR P w K mg base k x fn) : CalG P w K mg base k x fn := by
  obtain ⟨f, fd, ps, F, hm, kp, b⟩ := c.ex
  exact ⟨f, fd, ps, FnG.of F, hm, kp, b⟩
theorem call_mk {st : Stmt} {fn : List D → Tree (List D)} (a : At K mg x st) (c : ∀ f fd, Fun K x x st f fd → mg x = some (.ref f) → FnG P w K mg base k f fd ps (spL K fn))
    (hb : ∀ (kV doc pm : Value) (an : Option Addr) (cdv ct : Value) (us : List Value), us.length = ps.length → bindArgs (PySem.W.fnOf x x (defArgs st) (defBody st) (defScope st) .none kV doc pm an cdv ct) ⟨us, []⟩ = pure (ps.zip us)) : CalL P w K mg base k x fn := by
  obtain ⟨f, fd, F, hm⟩ := a.ex
  exact ⟨f, fd, ps, c f fd F hm, hm, F.kp, F.binds hb⟩
end
/-! ### the classes whose __init__ keeps the value -/
def oexIn (K : PySem.W.Frag) (C : Addr) : Bool := match K.lookup C with
  | some o => o.cls == .type "type" && match o.data with
    | .cls cd => !cd.hasDel && cd.hasDict && (match cd.mro with
      | m0 :: bm => m0 == .ref C && PySem.HandSPX.refsVE bm
      | [] => false) && match o.slots.toList with
      | [_, _, _, _, some k, _] => k == .builtin "ValueError.__new__"
      | _ => false
    | _ => false
  | none => false
theorem oexIn_ok {K : PySem.W.Frag} {C : Addr} (h : oexIn K C = true) : ∃ nm q N bs bm sn sub ab col dd k0 k1 k2 k3 k5, K.lookup C = some (excClassObj nm q C N bs bm true sn sub ab col dd k0 k1 k2 k3 k5 "ValueError.__new__") ∧ PySem.HandSPX.refsVE bm = true := by
  unfold oexIn at h
  split at h
  · rename_i o ho
    rw [Bool.and_eq_true] at h
    obtain ⟨h1, h⟩ := h
    split at h
    · rename_i cd hcd
      simp only [Bool.and_eq_true, Bool.not_eq_true'] at h
      obtain ⟨⟨⟨h2, h3⟩, h4⟩, h5⟩ := h
      split at h4
      · rename_i m0 bm hm
        rw [Bool.and_eq_true] at h4
        split at h5
        · rename_i a0 a1 a2 a3 kk a5 hs
          obtain ⟨oc, od, odt, osl⟩ := o
          obtain ⟨nm, bs, mro, ns, qn, hd, sn, sub, ab, col, del⟩ := cd
          dsimp only at h1 hcd h2 h3 hm hs
          have e1 := eq_of_beq h1
          have e2 := eq_of_beq h4.1
          have e3 := eq_of_beq h5
          subst e1 e2 e3 h2 h3 hm
          obtain ⟨sl⟩ := osl
          have hs : sl = [a0, a1, a2, a3, some (.builtin "ValueError.__new__"), a5] := hs
          subst hs
          subst hcd
          exact ⟨nm, qn, ns, bs, bm, sn, sub, ab, col, od, a0, a1, a2, a3, a5, ho, h4.2⟩
        · cases h5
      · cases h4
    · cases h
  · cases h
/-- what the program's head says of such a class -/
structure VClF (K : PySem.W.Frag) (mg : Str → Option Value) (x : Str) (CA : Addr) (qual : Str) (st : Stmt) : Prop where
  T : OexC K CA
  no : PySem.W.findIn K (.ref CA) "value" = some none
  at_ : mg x = some (.ref CA)
  ini : ∃ fI fd, PySem.W.findIn K (.ref CA) "__init__" = some (some (.ref fI)) ∧ PySem.W.typeIn K (.ref fI) = some (.type "function") ∧ Fun K "__init__" qual st fI fd
  xf : XfC K CA
  isc : IsC K CA
theorem vcls_of {P : Program} {w : World} {K : PySem.W.Frag} {mg : Str → Option Value} {base : Heap} {x qual : Str} {CA : Addr} {st : Stmt} {p1 p2 p3 p4 : Pos} (v : VClF K mg x CA qual st) (S : FnScope ["self", "value"] ["self", "value"] (defScope st))
    (hb : defBody st = [.Assign [.Attribute (.Name "self" p1) "value" p2] (.Name "value" p3) p4])
    (hp : ∀ (kV doc pm : Value) (an : Option Addr) (cdv ct : Value) (us : List Value), us.length = 2 → bindArgs (PySem.W.fnOf "__init__" qual (defArgs st) (defBody st) (defScope st) .none kV doc pm an cdv ct) ⟨us, []⟩ = pure ((["self", "value"] : List Str).zip us))
    (hk : ∀ (kV doc pm : Value) (an : Option Addr) (cdv ct : Value) (a u : Value), bindArgs (PySem.W.fnOf "__init__" qual (defArgs st) (defBody st) (defScope st) .none kV doc pm an cdv ct) ⟨[a], [("value", u)]⟩ = pure ((["self", "value"] : List Str).zip [a, u]))
    (vs : ∀ (f : Addr) (cdv : Value) (A : Around) (outer : List Env) (s : Shared) (H : Hp) (E : XK) (p : Pos), PE (cxOf CX0 P w K mg base ["self", "value"] qual (defScope st) f cdv A outer s H E).nox (.Name "self" p) (tVar 0) ∧ PE (cxOf CX0 P w K mg base ["self", "value"] qual (defScope st) f cdv A outer s H E).nox (.Name "value" p) (tVar 1)) : VCls P w K mg base x CA := by
  obtain ⟨fI, fd, iC, tI, F⟩ := v.ini
  refine ⟨v.T, v.no, v.at_, fI, fd, iC, tI, init_ok F S hb (vs fI), F.binds hp, fun s a u _ => ?_⟩
  obtain ⟨oc, od, kV, doc, pm, an, cdv, ct, osl, e, lk, hcd⟩ := F.ex
  rw [e]
  exact .of_eq (hk kV doc pm an cdv ct a u)
section
variable {X : Cx} {W : WX} {C : Nat → Value} {pos : Pos}
theorem sv_raiseW {x : Str} {k : Nat} {CA : Addr} {e : Expr} {ma : En → Tree (List D)} {p p2 : Pos} (c : VCls X.prog X.w X.K X.mg X.base x CA) (hcalm : X.calm = true) (tk : L2N.Takes X W) (hk : C k = .ref CA) (hr : Room 2 X.A) (hg : Gl X x) (ha : SA X (e :: []) ma)
    (hdb : (x == ("__debug__" : Str)) = false := by decide) (he : starEach (e :: []) X.env = (false, eval e X.env) :: starEach [] X.env := by rfl) (hpl : (backTo p2 (starEach [] X.env)).any (·.1) = false := by rfl) :
    SV X W C (.Raise (some (.Call (.Name x p) (e :: []) [] p2)) none pos) (oRaiseA k ma) := by
  obtain ⟨fI, fd, iC, tI, F1, hb, _⟩ := c.ini
  exact sv_raiseA hcalm tk hk c.T c.no iC tI F1 hr hb hg c.at_ ha hdb he hpl
/-- raise C(), C of the program's own over a built-in one -/
theorem sv_raiseN {x : Str} {k : Nat} {CA : Addr} {p p2 : Pos} {B nid iid : String} {bm : List Value} (c : ExcF X.K X.mg x CA B nid iid bm) (hcalm : X.calm = true) (tk : L2N.Takes X W) (hk : C k = .ref CA) (hg : Gl X x) (hdb : (x == ("__debug__" : Str)) = false := by decide) :
    SV X W C (.Raise (some (.Call (.Name x p) [] [] p2)) none pos) (oRaise0 k) :=
  sv_raise0 hcalm tk (fun pins s σ H Q I h => pmk_own0N (X := X) c.base c.inn c.gC c.kC (raises_own c.sub c.typ) hg hdb pins s σ H Q I (hk ▸ h))
end
/-! ### lambdas -/
theorem lamAt_mk {CX : CXT} {P : Program} {w : World} {K : PySem.W.Frag} {mg : Str → Option Value} {base : Heap} {N : List Str} {qual : Str} {scope : Scope} {f c tb : Addr} {cdv : Value} {A : Around} {outer : List Env} {s : Shared} {H : Hp} {E : XK} {n : Nat} {x : CloT} {js : List Nat}
    (hc : cdv = .ref c) (row : CLOS[n]? = some x) (tB : TabB base mg c tb) (q : x.q = (cxOf CX P w K mg base N qual scope f cdv A outer s H E).env.qual ++ "<lambda>") (mem : (tb, x.q) ∈ TB) (uniq : ∀ p ∈ TB, p.1 = tb → p.2 = x.q)
    (dflt : defaultsOf x.params (cxOf CX P w K mg base N qual scope f cdv A outer s H E).env = ([], [])) (ns : x.ns = freeNs x.scope.names) (nd : x.ns.Nodup) (free : x.scope.names.all (fun y => y.2 != .free || (scope.names.lookup y.1 == some .cell || scope.names.lookup y.1 == some .free)) = true)
    (js' : js.map (fun j => N[j]?) = x.ns.map some) : LamAt (cxOf CX P w K mg base N qual scope f cdv A outer s H E).nox tb c n x js := by
  refine ⟨row, tB, hc, q, mem, uniq, dflt, ns, nd, fun y hy e => ?_, js'⟩
  have := List.all_eq_true.mp free y hy
  simp only [e, Bool.or_eq_true, bne_iff_ne, ne_eq, not_true_eq_false, false_or, beq_iff_eq, bne_self_eq_false, Bool.false_eq_true] at this
  exact this
end R

set_option Elab.async false
set_option linter.all false
set_option maxRecDepth 100000
set_option maxHeartbeats 2000000
/-! facts on own exception classes, by one evaluation a class -/
namespace R
open PySem PySem.Spec PyProof.Rows L2 LamX
def iscB (K : PySem.W.Frag) (D : Addr) : Bool :=
  (PySem.W.clsIn K D).isSome && (decide (PySem.W.findIn K (.ref D) (Str.ofString "__getattribute__") = some (some (.builtin "BaseException.__getattribute__"))) && (decide (PySem.W.findIn K (.ref D) (Str.ofString "__getattr__") = some none) &&
  (decide (PySem.W.subIn K (.ref D) (.type "BaseException") = some true) && (decide (PySem.W.findIn K (.ref D) (Str.ofString "__class__") = some (some (.builtin "object.__class__"))) &&
  (decide (PySem.W.specialIn K (.builtin "object.__class__") "__get__" = some (some (.builtin "getset_descriptor.__get__"))) && (decide (PySem.W.takesIn K (.builtin "object.__class__") = some true) && decide (PySem.W.mroIn K D (.type "object") = some true)))))))
theorem iscB_ok {K : PySem.W.Frag} {D : Addr} (h : iscB K D = true) : IsC K D := by
  unfold iscB at h
  simp only [Bool.and_eq_true, decide_eq_true_eq] at h
  obtain ⟨h1, h2, h3, h4, h5, h6, h7, h8⟩ := h
  exact ⟨h1, h2, h3, h4, h5, h6, h7, h8⟩
def vclB (K : PySem.W.Frag) (CA fI : Addr) : Bool :=
  oexIn K CA && (decide (PySem.W.findIn K (.ref CA) "__setattr__" = some (some (.builtin "object.__setattr__"))) && (decide (PySem.W.subIn K (.ref CA) (.type "BaseException") = some true) && (decide (PySem.W.typeIn K (.ref CA) = some (.type "type")) && (PySem.W.keepIn K (.ref CA) &&
  (decide (PySem.W.findIn K (.ref CA) "value" = some none) && (decide (PySem.W.findIn K (.ref CA) "__init__" = some (some (.ref fI))) && (decide (PySem.W.typeIn K (.ref fI) = some (.type "function")) && (xfB K CA && iscB K CA))))))))
theorem vclf_of {K : PySem.W.Frag} {mg : Str → Option Value} {h : Heap} {x qual : Str} {CA fI : Addr} {fd : FuncData} {st : Stmt} (KX : K.In h) (G : h.Ns mainGlobals mg) (a : PySem.W.nsIn K mainGlobals x = some (some (.ref CA))) (v : vclB K CA fI = true) (F : Fun K "__init__" qual st fI fd) : VClF K mg x CA qual st := by
  unfold vclB at v
  simp only [Bool.and_eq_true, decide_eq_true_eq] at v
  obtain ⟨h1, h2, h3, h4, h5, h6, h7, h8, h9, h10⟩ := v
  exact ⟨⟨oexIn_ok h1, h2, h3, h4, h5⟩, h6, PySem.W.mg_of KX G a, ⟨fI, fd, h7, h8, F⟩, xfB_ok h9, iscB_ok h10⟩
theorem fun_ini {K : PySem.W.Frag} {qual : Str} {st : Stmt} {f : Addr} {oc kV dc pm cd ct : Value} {od an : Option Addr} {sl : Array (Option Value)}
    (l : K.lookup f = some ⟨oc, od, .func (PySem.W.fnOf "__init__" qual (defArgs st) (defBody st) (defScope st) .none kV dc pm an cd ct), sl⟩) (c : PySem.W.codeIn K cd qual = true) (k : PySem.W.keepIn K (.ref f) = true) : Fun K "__init__" qual st f (PySem.W.fnOf "__init__" qual (defArgs st) (defBody st) (defScope st) .none kV dc pm an cd ct) :=
  fun_mk l c k
/-- a class of the program's own over a built-in one -/
structure ExcN (K : PySem.W.Frag) (mg : Str → Option Value) (x : Str) (CS : Addr) : Prop where
  ex : ∃ B nid iid bm, ExcF K mg x CS B nid iid bm
  at_ : mg x = some (.ref CS)
  isc : IsC K CS
theorem excn_of {K : PySem.W.Frag} {mg : Str → Option Value} {x : Str} {h : Heap} {CS : Addr} {B nid iid : String} {bm : List Value} (X : K.In h) (G : h.Ns mainGlobals mg) (b : ExcBaseFacts B nid iid bm) (a : PySem.W.nsIn K mainGlobals x = some (some (.ref CS))) (i : PySem.W.excIn K CS bm nid = true)
    (v : (PySem.W.keepIn K (.ref CS) && (decide (PySem.W.subIn K (.ref CS) (.type "BaseException") = some true) && (decide (PySem.W.typeIn K (.ref CS) = some (.type "type")) && iscB K CS))) = true) (e : PySem.W.exmOne K (.ref CS) (.ref CS) = some true) : ExcN K mg x CS := by
  simp only [Bool.and_eq_true, decide_eq_true_eq] at v
  obtain ⟨h1, h2, h3, h4⟩ := v
  exact ⟨⟨B, nid, iid, bm, b, i, PySem.W.mg_of X G a, h1, h2, h3, e⟩, PySem.W.mg_of X G a, iscB_ok h4⟩
/-! ### tables over the classes -/
/-- which clause catches which class -/
def mtOf (t : List (List Bool)) : Nat → Nat → Option Bool := fun k j => t[k]?.bind (·[j]?)
def xmB (K : PySem.W.Frag) (cs hs : List Addr) (t : List (List Bool)) : Bool := (List.range t.length).all fun k => (List.range (t.getD k []).length).all fun j => decide (PySem.W.exmOne K (.ref (cs.getD k 0)) (.ref (hs.getD j 0)) = mtOf t k j)
theorem xm_of {K : PySem.W.Frag} {cs hs : List Addr} {t : List (List Bool)} (h : xmB K cs hs t = true) : ∀ k j c b, hs[j]? = some c → mtOf t k j = some b → PySem.W.exmOne K (.ref (cs.getD k 0)) (.ref c) = some b := fun k j c b hc hb => by
  unfold xmB at h
  have h0 := hb
  unfold mtOf at h0
  obtain ⟨r, hr, hj⟩ := Option.bind_eq_some_iff.mp h0
  have lk := (List.getElem?_eq_some_iff.mp hr).1
  have lj := (List.getElem?_eq_some_iff.mp hj).1
  have er : t.getD k [] = r := by rw [List.getD_eq_getElem?_getD, hr]; rfl
  have := List.all_eq_true.mp h k (List.mem_range.mpr lk)
  have := List.all_eq_true.mp this j (List.mem_range.mpr (by rw [er]; exact lj))
  have := of_decide_eq_true this
  rw [List.getD_eq_getElem?_getD (l := hs), hc] at this
  rw [hb] at this
  exact this
theorem hm_of {K : PySem.W.Frag} {C : Nat → Value} {l : List (Value × Nat × SuV)} {hs : List Addr} {mt : Nat → Nat → Option Bool} (hl : l.map (·.1) = hs.map Value.ref) (xm : ∀ k j c b, hs[j]? = some c → mt k j = some b → PySem.W.exmOne K (C k) (.ref c) = some b) : ∀ k j z b, l[j]? = some z → mt k j = some b → PySem.W.exmOne K (C k) z.1 = some b := fun k j z b hz hb => by
  have h1 : (l.map (·.1))[j]? = some z.1 := by rw [List.getElem?_map, hz]; rfl
  rw [hl, List.getElem?_map] at h1
  obtain ⟨c, hc, e⟩ := Option.map_eq_some_iff.mp h1
  rw [← e]
  exact xm k j c b hc hb
/-- the answers of isinstance(e, cv), class by class -/
def ikB (K : PySem.W.Frag) (cs : List Addr) (cv : Value) (t : List Bool) : Bool := (List.range t.length).all fun k => decide (PySem.W.kitOne K (.ref (cs.getD k 0)) cv = t[k]?)
theorem ik_of {K : PySem.W.Frag} {cs : List Addr} {cv : Value} {t : List Bool} (h : ikB K cs cv t = true) (hi : ∀ k, k < t.length → IsC K (cs.getD k 0)) : ∀ k b, t[k]? = some b → ∃ CA, Value.ref (cs.getD k 0) = .ref CA ∧ IsC K CA ∧ PySem.W.kitOne K (.ref CA) cv = some b := fun k b hb => by
  have lk := (List.getElem?_eq_some_iff.mp hb).1
  have := of_decide_eq_true (List.all_eq_true.mp h k (List.mem_range.mpr lk))
  rw [hb] at this
  exact ⟨_, rfl, hi k lk, this⟩
section
variable {X : Cx} {W : WX} {C : Nat → Value} {pos : Pos}
theorem sv_raiseN' {x : Str} {k : Nat} {CA : Addr} {p p2 : Pos} (c : ExcN X.K X.mg x CA) (hcalm : X.calm = true) (tk : L2N.Takes X W) (hk : C k = .ref CA) (hg : Gl X x) (hdb : (x == ("__debug__" : Str)) = false := by decide) :
    SV X W C (.Raise (some (.Call (.Name x p) [] [] p2)) none pos) (oRaise0 k) := by
  obtain ⟨B, nid, iid, bm, e⟩ := c.ex
  exact sv_raiseN e hcalm tk hk hg hdb
end
/-- a class at its name -/
theorem pe_cls {X : Cx} {x : Str} {a : Addr} {p : Pos} (hg : Gl X x) (hm : X.mg x = some (.ref a)) (hd : (x == ("__debug__" : Str)) = false := by decide) : PE X (.Name x p) (tC (.ref a)) := pe_glob hg hm rfl hd
end R

set_option Elab.async false
set_option linter.all false
set_option maxRecDepth 100000
set_option maxHeartbeats 2000000
/-! f() -/
namespace R
open PySem PySem.Spec PyProof.Rows L2
open Tree (leaf fail)
theorem se_cG0 {X : Cx} {k j : Nat} {x : Str} {fn : List D → Tree D} {p pos : Pos} (c : CalG X.prog X.w X.K X.mg X.base k x fn) (hG : Gd X.A) (hr : Room j X.A) (hk : k ≤ j) (hg : Gl X x) (hdb : (x == ("__debug__" : Str)) = false := by decide) : SE X (.Call (.Name x p) [] [] pos) (fun _ => fn []) := by
  obtain ⟨f, fd, ps, F, hm, kp, b⟩ := c.ex
  refine ⟨⟨fun pins s σ H Q I ⟨B, F1, E, g, rl, q⟩ => ?_⟩⟩
  refine wpAny_Call_Name_kw (ld_glob I hg hm ?_ hdb)
  refine PySem.W.callWith_K0 I.kIn kp ?_
  show wpAny _ _ (call (.ref f) []) _ _ _
  have h : spF X.K fn [] H Q E0 := ⟨F1, [], g, .nil, Tree.all_mono (fun d k v F' H' e r => k v F' H' e r) q⟩
  have hl := F.many _ _ _ _ h
  have bd := b s [] I.kIn (by simpa using hl)
  refine wpAny_call (codeAny_mono (goG (zs := []) F hG (hr.mono hk) I bd .nil h) fun r s' hq => ?_)
  cases r with
  | error e => exact False.elim hq
  | ok fl => cases fl <;> first | exact hq | exact False.elim hq
end R

set_option Elab.async false
set_option linter.all false
set_option maxRecDepth 100000
set_option maxHeartbeats 2000000
/-! repr of a list in which empty dicts stand beside other data -/
namespace R
open PySem PySem.Spec PyProof.Rows L2
open Tree (leaf fail)
/-- an item: data without dicts, or an empty dict -/
def It1 (K : PySem.W.Frag) (H : Hp) (v : V) (d : PyData) : Prop := (Dp K H v d ∧ d.hasDict = false) ∨ ∃ a, v = .ref a ∧ d = .dict [] ∧ H a = some (.dK [])
section
variable {X : Cx} {pins : List (Addr × Obj)} {σ : L2.St} {H : Hp} {s : Shared}
theorem It1.rd (I : Inv X pins σ H s) {v : V} {d : PyData} {u : Value} (h : It1 X.K H v d) (r : RelV v u) : ∃ as, Reads s.heap u d as ∧ (d.hasDict = true → sysModules ∉ as) := by
  rcases h with ⟨dp, hd⟩ | ⟨a, rfl, rfl, ha⟩
  · obtain ⟨as, rd⟩ := Dp.reads I d v u dp r
    exact ⟨as, rd, PyData.noDict_hsm hd⟩
  · cases r
    obtain ⟨_, hsm, vs, kv, o, es, ep, ho, hx, hd, _, hp, _⟩ := dk_of I.hok ha
    cases kv
    have he : es.toList = [] := by
      generalize es.toList = l at hp
      cases hp; rfl
    have rd : Reads s.heap (.ref a) (.dict []) ([a] ++ []) := .dict ho hx.1 hd (by rw [he]; exact .nil) (by rw [he]; exact .nil)
    refine ⟨_, rd, fun _ hm => ?_⟩
    rw [List.append_nil, List.mem_singleton] at hm
    rw [← hm] at hsm
    simp at hsm
/-- the items' texts -/
theorem it_texts (I : Inv X pins σ H s) : ∀ {vs : List V} {ds : List PyData} {us : List Value}, Paired (It1 X.K H) vs ds → Vals vs us → PyData.showableAll ds = true → (∀ t ∈ PyData.shownAll ds, t.length ≤ sizeLine) →
    (∃ as, ReadsAll s.heap us ds as) ∧ ∃ bs, ReadAtMost s.heap (PyData.depthAll ds) bs ∧ ReprAllK X.prog X.w bs s.heap (PyData.depthAll ds) us (PyData.shownAll ds)
  | _, _, _, .nil, .nil, _, _ => ⟨⟨_, .nil⟩, [], fun _ h => (nomatch h), .nil⟩
  | _, _, _, .cons (b := d) (l₂ := ds) h hs, .cons r rs, sh, sz => by
    have sh2 : d.showable = true ∧ PyData.showableAll ds = true := by simpa [PyData.showableAll] using sh
    have sz1 : d.shown.length ≤ sizeLine := sz _ (by simp [PyData.shownAll])
    have sz2 : ∀ t ∈ PyData.shownAll ds, t.length ≤ sizeLine := fun t ht => sz t (by simp [PyData.shownAll, ht])
    obtain ⟨as, rd, nd⟩ := h.rd I r
    obtain ⟨c1, g1, k1⟩ := ReprK.of_reads (prog := X.prog) (w := X.w) rd sh2.1 nd sz1
    obtain ⟨⟨bs, rds⟩, c2, g2, k2⟩ := it_texts I hs rs sh2.2 sz2
    have l1 : d.depth ≤ PyData.depthAll (d :: ds) := by simp only [PyData.depthAll]; omega
    have l2 : PyData.depthAll ds ≤ PyData.depthAll (d :: ds) := by simp only [PyData.depthAll]; omega
    refine ⟨⟨_, .cons rd rds⟩, c1 ++ c2, (g1.mono l1).append (g2.mono l2), ?_⟩
    have k1' := (k1.more (as' := c1 ++ c2) fun b hb => List.mem_append.mpr (.inl hb)).level_le l1
    have k2' := k2.more_le (as' := c1 ++ c2) (fun b hb => List.mem_append.mpr (.inr hb)) l2
    have e : PyData.shownAll (d :: ds) = d.shown :: PyData.shownAll ds := by simp [PyData.shownAll]
    rw [e]
    exact .cons k1' k2'
end
def rReprM (K : PySem.W.Frag) : List V → Hp → VK → Prop := fun xs H Q => ∃ a v vs ds, xs = [.ref a] ∧ SqL K H a (v :: vs) ∧ Paired (It1 K H) (v :: vs) ds ∧ PyData.showableAll ds = true ∧ PyData.depthAll ds ≤ 60 ∧ (listText (PyData.shownAll ds)).length ≤ sizeLine ∧ Q (.str (listText (PyData.shownAll ds))) H
theorem cr_reprM {X : Cx} (hG : Gd X.A) (hu : X.A.units + 64 < cLine) : CallR X (.builtin "repr") (rReprM X.K) := by
  intro pins s σ H xs us Q I r ⟨a, v, vs, ds, e, hs, it, sh, dp, sz, q⟩
  subst e
  obtain ⟨u, rfl, rv⟩ := vals1 r
  cases rv
  obtain ⟨its, rl, pl, _⟩ := I.list hs
  obtain ⟨o, n, ho, hc, _, hd⟩ := pl
  obtain ⟨⟨as, rds⟩, bs, hb, hk⟩ := it_texts I it rl sh fun t ht => Nat.le_trans (listText_mem_le ht) sz
  have rd : Reads s.heap (.ref a) (.list ds) (a :: as) := .list ho hc hd (by simpa using rds)
  have na : a ∉ bs := not_mem_of_deeper rd (by simp only [PyData.depth]; omega) hb
  cases its with
  | nil => have := rl.length; simp at this
  | cons x l =>
    refine call_repr_slot (by omega) ⟨o, ho, hc⟩ F.slot_list_repr.toG ?_
    refine call_list_reprK (d := PyData.depthAll ds) ho hc hd na (by simpa using hk.length_eq) (fun i y e => hk.item i y (by simpa using e)) hG (fun b _ => Clear.nil b) (by show X.A.units + 1 + (PyData.depthAll ds + 1) < cLine; omega) (fun _ _ e => e) (fun h' t tk k => ?_) sz
    exact ⟨_, _, rfl, .str _, H, I.kept k, ⟨t, rfl⟩, q⟩
def rRepr2 (K : PySem.W.Frag) : List V → Hp → VK → Prop := fun xs H Q => rRepr K xs H Q ∨ rReprM K xs H Q
theorem cr_repr2 {X : Cx} (hG : Gd X.A) (hu : X.A.units + 64 < cLine) : CallR X (.builtin "repr") (rRepr2 X.K) := CallR.or (cr_repr hG hu) (cr_reprM hG hu)
def toP1 : D → PyData
  | .dct => .dict []
  | d => toPy 11 d
def fit1 : D → Bool
  | .dct => true
  | d => fitD 11 d
def listR (ds : List D) : Tree D := if (ds.all fit1 && PyData.showableAll (ds.map toP1) && decide ((listText (PyData.shownAll (ds.map toP1))).length ≤ sizeLine)) = true then leaf (.str (listText (PyData.shownAll (ds.map toP1)))) else fail
/-- repr(x) -/
def fRepr2 : List D → Tree D
  | [.lst (d :: ds)] => listR (d :: ds)
  | ds => fRepr ds
theorem it_rep {K : PySem.W.Frag} {F : Fz} {H : Hp} (g : Good F H) {d : D} {v : V} (h : fit1 d = true) (r : Rep K F v d) : It1 K H v (toP1 d) := by
  by_cases hd : d = .dct
  · subst hd
    cases r with
    | dct ha => exact .inr ⟨_, rfl, rfl, g.sub _ _ ha⟩
  · have e1 : toP1 d = toPy 11 d := by cases d <;> first | rfl | exact absurd rfl hd
    have e2 : fit1 d = fitD 11 d := by cases d <;> first | rfl | exact absurd rfl hd
    rw [e2] at h
    rw [e1]
    exact .inl ⟨dp_of g 11 d v h r, PyData.hasDict_of_canLay _ (canLay_fit 11 d h)⟩
theorem its_rep {K : PySem.W.Frag} {F : Fz} {H : Hp} (g : Good F H) : ∀ {vs : List V} {ds : List D}, ds.all fit1 = true → Reps K F vs ds → Paired (It1 K H) vs (ds.map toP1)
  | _, _, _, .nil => .nil
  | _, _, h, .cons r rs => by
    rw [List.all_cons, Bool.and_eq_true] at h
    exact .cons (it_rep g h.1 r) (its_rep g h.2 rs)
theorem depth_p1 (d : D) : (toP1 d).depth ≤ 11 := by
  by_cases hd : d = .dct
  · subst hd; show (PyData.dict []).depth ≤ 11; decide +kernel
  · have e1 : toP1 d = toPy 11 d := by cases d <;> first | rfl | exact absurd rfl hd
    rw [e1]; exact depth_py 11 d
theorem depth_all1 : ∀ ds : List D, PyData.depthAll (ds.map toP1) ≤ 11
  | [] => by simp [PyData.depthAll]
  | d :: ds => by
    have h1 := depth_p1 d
    have h2 := depth_all1 ds
    simp only [List.map_cons, PyData.depthAll]
    omega
theorem f1_repr2 {K : PySem.W.Frag} : Fn1 K (rRepr2 K) fRepr2 := by
  intro F H vs ds Q g p q
  unfold fRepr2 at q
  split at q
  · rename_i d ds'
    unfold listR at q
    split at q
    · rename_i h
      simp only [Bool.and_eq_true, decide_eq_true_eq] at h
      obtain ⟨v, rfl, pk⟩ := pks1 p
      obtain ⟨a, xs, rfl, hh, rs⟩ := pk.lst g
      have it := its_rep g h.1.1 rs
      cases xs with
      | nil => cases rs
      | cons x xs => exact .inr ⟨a, x, xs, _, rfl, .of hh, it, h.1.2, Nat.le_trans (depth_all1 _) (by decide), h.2, q _ F H (Ext.refl g) (.str _)⟩
    · exact q.elim
  · exact .inl (f1_repr F H vs ds Q g p q)
/-! in a suite: repr(e.value) -/
def mReprV2 (nv : Nat) : SuE := fun k v _ => match v with
  | some d => if k < nv then fRepr2 [d] else fail
  | none => fail
theorem sx_repr2 {X : Cx} {C : Nat → Value} {i nv : Nat} {n : Str} {p p1 p2 pos : Pos} (hG : Gd X.A) (hu : X.A.units + 64 < cLine) (hX : ∀ k, k < nv → ∃ CA, C k = .ref CA ∧ XfC X.K CA ∧ PySem.W.findIn X.K (.ref CA) "value" = some none) (hg : Gl X "repr") (hm : X.mg "repr" = none)
    (hv : ∀ (a : Addr) (q : List (Addr × Obj)), PE (X.suite a q) (.Name n p1) (tVar i)) (hb : ∀ (a : Addr) (q : List (Addr × Obj)), attributeBase (.Name n p1) "value" (X.suite a q).env (eval (.Name n p1) (X.suite a q).env) = eval (.Name n p1) (X.suite a q).env := by intros; rfl)
    (he : ∀ (a : Addr) (q : List (Addr × Obj)), starEach ((.Attribute (.Name n p1) "value" p2) :: []) (X.suite a q).env = (false, eval (.Attribute (.Name n p1) "value" p2) (X.suite a q).env) :: starEach [] (X.suite a q).env := by intros; rfl)
    (hpl : ∀ (a : Addr) (q : List (Addr × Obj)), (backTo pos (starEach [] (X.suite a q).env)).any (·.1) = false := by intros; rfl) :
    SXe X C i (.Call (.Name "repr" p) [.Attribute (.Name n p1) "value" p2] [] pos) (mReprV2 nv) := by
  refine ⟨fun a ob cls d q hz hf => ?_⟩
  have pv : PE (X.suite a ((a, ob) :: q)) (.Attribute (.Name n p1) "value" p2) (fun σ H Q => ∃ (CA dd : Addr) (w : V), cls = .ref CA ∧ XfC X.K CA ∧ PySem.W.findIn X.K (.ref CA) "value" = some none ∧ d = some dd ∧ H dd = some (.xd [("value", w)]) ∧ σ[i]? = some (some (.ref a)) ∧ Q w H) := by
    refine ⟨fun pins s σ H Q I ⟨CA, dd, w, h1, h2, h3, h4, h5, h6, h7⟩ => ?_⟩
    exact (pe_xf (C := CA) h2 h3 hz.zc hf (hv a ((a, ob) :: q)) (hb a ((a, ob) :: q))).run pins s σ H Q I ⟨.ref a, h6, rfl, h1, dd, [("value", w)], w, h4, h5, rfl, h7⟩
  refine PE.weak (pe_callB (cr_repr2 (X := X.suite a ((a, ob) :: q)) hG hu) hg hm (by decide +kernel) (pa_cons pv pa_nil (he a _)) (by decide) (by decide) (he a _) (hpl a _)) fun σ H Q ⟨k, v, B, F, E, ⟨i1, i2, i3⟩, g, rl, q⟩ => ?_
  cases v with
  | none => exact False.elim q
  | some v =>
    by_cases hk : k < nv
    · have q : (if k < nv then fRepr2 [v] else fail : Tree D).all _ := q
      rw [if_pos hk] at q
      obtain ⟨CA, c1, c2, c3⟩ := hX k hk
      obtain ⟨dd, w, h1, h2, h3⟩ := i2
      exact ⟨CA, dd, w, i1.trans c1, c2, c3, h1, h2, i3, f1_repr2 F H [w] [v] Q g (.cons (.rep h3) .nil) q⟩
    · have q : (if k < nv then fRepr2 [v] else fail : Tree D).all _ := q
      rw [if_neg hk] at q
      exact q.elim
end R

set_option Elab.async false
set_option maxRecDepth 100000
set_option maxHeartbeats 4000000
set_option linter.all false
/-! tools for the laws' heads: pots, ranges, the outer comprehension -/
namespace R
open PySem L2
open Tree (leaf fail)
theorem bind_leaf {α β : Type} (a : α) (f : α → Tree β) : (Tree.leaf a).bind f = f a := Eq.trans rfl rfl
theorem bind_fail {α β : Type} (f : α → Tree β) : (Tree.fail : Tree α).bind f = .fail := Eq.trans rfl rfl
theorem mPeek_z (s : Slot) (E : En) : mPeek 0 (some s :: E) = .leaf s.d := rfl
theorem mPeek_s (i : Nat) (x : Option Slot) (E : En) : mPeek (i + 1) (x :: E) = mPeek i E := rfl
theorem mVar_z (d : D) (E : En) : mVar 0 (some ⟨false, d⟩ :: E) = .leaf d := rfl
theorem mVar_s (i : Nat) (x : Option Slot) (E : En) : mVar (i + 1) (x :: E) = mVar i E := rfl
theorem put_z (d : D) (x : Option Slot) (E : En) : En.put (x :: E) 0 d = some ⟨false, d⟩ :: E := rfl
theorem put_s (i : Nat) (d : D) (x : Option Slot) (E : En) : En.put (x :: E) (i + 1) d = x :: En.put E i d := rfl
theorem putOwn_z (d : D) (x : Option Slot) (E : En) : En.putOwn (x :: E) 0 d = some ⟨true, d⟩ :: E := rfl
theorem putOwn_s (i : Nat) (d : D) (x : Option Slot) (E : En) : En.putOwn (x :: E) (i + 1) d = x :: En.putOwn E i d := rfl
def wset (E : En) (v : Nat) : En := E.set v none
theorem wipe_n (E : En) : wipeE E [] = E := rfl
theorem wipe_c (v : Nat) (vs : List Nat) (E : En) : wipeE E (v :: vs) = wset (wipeE E vs) v := rfl
theorem wset_z (x : Option Slot) (E : En) : wset (x :: E) 0 = none :: E := rfl
theorem wset_s (v : Nat) (x : Option Slot) (E : En) : wset (x :: E) (v + 1) = x :: wset E v := rfl
theorem lineOk_s {α : Type} (n : Nat) (t : Tree α) (h : n ≤ 100) : lineOk n t = t := if_pos (Nat.le_trans h (by decide))
def BA : Nat := 2 ^ 4000
def BB : Nat := 2 ^ 8001
theorem bab : BA * BA + BA * BA = BB := by decide +kernel
theorem ba_pos : 1000 < BA := by decide +kernel
theorem ba_le : BA ≤ BB := by decide +kernel
theorem log_bb {n : Nat} (h : n < BB) : n.log2 < 8001 := by
  by_cases e : n = 0
  · rw [e]; decide
  · exact (Nat.log2_lt e).mpr h
theorem mulB_s {i j : Int} (hi : i.natAbs < BB) (hj : j.natAbs < BB) : mulB i j = true := by
  have h1 := log_bb hi
  have h2 := log_bb hj
  unfold mulB
  exact decide_eq_true (by omega)
theorem opMul_i {i j : Int} (hi : i.natAbs < BB) (hj : j.natAbs < BB) : opMul (.int i) (.int j) = .leaf (.int (i * j)) := if_pos (mulB_s hi hj)
theorem opMod_i {i j : Int} (h0 : 0 < j) : opMod (.int i) (.int j) = .leaf (.int (i % j)) := if_pos (decide_eq_true h0)
theorem opAdd_i (i j : Int) : opAdd (.int i) (.int j) = .leaf (.int (i + j)) := rfl
theorem opSub_i (i j : Int) : opSub (.int i) (.int j) = .leaf (.int (i - j)) := rfl
theorem opNeg_i (i : Int) : opNeg (.int i) = .leaf (.int (-i)) := rfl
theorem cLt_i (i j : Int) : cLt (.int i) (.int j) = .leaf (decide (i < j)) := rfl
theorem cLe_i (i j : Int) : cLe (.int i) (.int j) = .leaf (decide (i ≤ j)) := rfl
theorem cGt_i (i j : Int) : cGt (.int i) (.int j) = .leaf (decide (j < i)) := rfl
theorem cGe_i (i j : Int) : cGe (.int i) (.int j) = .leaf (decide (j ≤ i)) := rfl
theorem cEq_i (i j : Int) : cEq (.int i) (.int j) = .leaf (i == j) := rfl
theorem cNe_i (i j : Int) : cNe (.int i) (.int j) = .leaf (!(i == j)) := rfl
theorem fInt_i (i : Int) : fInt [.int i] = .leaf (.int i) := rfl
theorem fAbs_i (i : Int) : fAbs [.int i] = .leaf (.int (if i < 0 then -i else i)) := rfl
theorem lineOk_1 {α : Type} (t : Tree α) : lineOk 1 t = t := lineOk_s _ _ (by omega)
theorem lineOk_2 {α : Type} (t : Tree α) : lineOk 2 t = t := lineOk_s _ _ (by omega)
theorem lineOk_3 {α : Type} (t : Tree α) : lineOk 3 t = t := lineOk_s _ _ (by omega)
theorem asB_b (b : Bool) : asB (.bl b) = .leaf b := rfl
theorem fLen_t (xs : List D) : fLen [.tup xs] = .leaf (.int xs.length) := rfl
theorem fLen_l (xs : List D) : fLen [.lst xs] = .leaf (.int xs.length) := rfl
theorem Tree.all_to {α β : Type} {t : Tree α} {f : α → Tree β} {P : α → Prop} {Q : β → Prop} (h : t.all P) (k : ∀ a, P a → (f a).all Q) : (t.bind f).all Q := Tree.all_bind.mpr (Tree.all_mono k h)
theorem range_nil (a : Int) : rangeD a a = [] := by
  unfold rangeD
  rw [Int.sub_self]
  rfl
theorem range_cons (a : Int) (n : Nat) : rangeD a (a + (n + 1 : Nat)) = .int a :: rangeD (a + 1) (a + 1 + n) := by
  unfold rangeD
  rw [show (a + ((n + 1 : Nat) : Int) - a).toNat = n + 1 by omega, show (a + 1 + (n : Int) - (a + 1)).toNat = n by omega, List.range_succ_eq_map, List.map_cons, List.map_map]
  refine congr (congrArg _ (by simp)) (List.map_congr_left fun i _ => ?_)
  show D.int _ = D.int _
  exact congrArg _ (by simp only [Nat.succ_eq_add_one]; omega)
theorem all_draw {α : Type} {n : Nat} {k : Nat → Tree α} {P : α → Prop} (h : ∀ i : Nat, i < n → (k i).all P) : (Tree.draw n k).all P := h
theorem all_leaf {α : Type} {a : α} {P : α → Prop} (h : P a) : (Tree.leaf a).all P := h
theorem bls_true {β : Type} : ∀ L : List β, blsD (L.map fun _ => D.bl true) = some (L.map fun _ => true)
  | [] => rfl
  | x :: L => by rw [List.map_cons, List.map_cons]; unfold blsD; rw [bls_true L]; rfl
theorem all_true {β : Type} (L : List β) : fAll [.lst (L.map fun _ => D.bl true)] = .leaf (.bl true) := by
  show withO _ _ = _
  unfold withO
  rw [bls_true]
  simp
theorem range_n (n : Nat) : rangeD 0 (n : Int) = (List.range n).map fun i : Nat => .int (i : Int) := by
  unfold rangeD
  rw [show ((n : Int) - 0).toNat = n by omega]
  exact List.map_congr_left fun i _ => by rw [Int.zero_add]
structure AllS {α : Type} (P : α → Prop) (t : Tree α) : Prop where
  h : t.all P
theorem allS_bind {α β : Type} {P : β → Prop} {f : α → Tree β} {t : Tree α} : AllS P (t.bind f) = AllS (fun a => AllS P (f a)) t :=
  propext ⟨fun ⟨h⟩ => ⟨Tree.all_mono (fun _ k => ⟨k⟩) (Tree.all_bind.mp h)⟩, fun ⟨h⟩ => ⟨Tree.all_bind.mpr (Tree.all_mono (fun _ k => k.h) h)⟩⟩
theorem allS_leaf {α : Type} {P : α → Prop} {a : α} : AllS P (.leaf a) = P a := propext ⟨fun h => h.h, fun h => ⟨h⟩⟩
theorem allL {α : Type} {a : α} {P : α → Prop} : (Tree.leaf a).all P = P a := rfl
theorem allS_mono {α : Type} {P Q : α → Prop} {t : Tree α} (h : AllS P t) (k : ∀ a, P a → Q a) : AllS Q t := ⟨Tree.all_mono k h.h⟩
theorem allS_fun {α β : Type} {P : α → Prop} {Q : β → Prop} {t : Tree α} {f : α → Tree β} (h : AllS P t) (k : ∀ a, P a → AllS Q (f a)) : AllS Q (t.bind f) := by
  rw [allS_bind]
  exact allS_mono h k
theorem pow_i {i j : Int} (h : powB i j = true) : opPow (.int i) (.int j) = .leaf (.int (i ^ j.toNat)) := if_pos h
def lcc (mt : D → Tree Bool) (me : D → Tree D) : List D → Tree (List D)
  | [] => leaf []
  | d :: ds => (mt d).bind fun b => if b = true then (me d).bind fun y => (lcc mt me ds).bind fun r => leaf (y :: r) else lcc mt me ds
/-- with its line -/
def lck (mt : D → Tree Bool) (me : D → Tree D) (ds : List D) : Tree (List D) := lineOk ds.length (lcc mt me ds)
def pairK {α : Type} (k : D → D → Tree α) : D → Tree α
  | .tup [a, b] => k a b
  | _ => .fail
theorem pairK_t {α : Type} (k : D → D → Tree α) (a b : D) : pairK k (.tup [a, b]) = k a b := Eq.trans rfl rfl
theorem bind_assoc' {α β γ : Type} (f : α → Tree β) (g : β → Tree γ) : ∀ t : Tree α, (t.bind f).bind g = t.bind fun a => (f a).bind g
  | .leaf a => rfl
  | .fail => rfl
  | .draw n k => congrArg (Tree.draw n) (funext fun i => bind_assoc' f g (k i))
theorem lcLoop_of {g : D → En → Tree En} {mt : En → Tree Bool} {me : En → Tree D} {E : En} {gt : D → Tree Bool} {ge : D → Tree D} (h1 : ∀ d, (g d E).bind mt = gt d) (h2 : ∀ d E', g d E = .leaf E' → me E' = ge d) (h3 : ∀ d, (∃ E', g d E = .leaf E') ∨ (g d E = .fail)) : ∀ ds, lcLoop g mt me E ds = lcc gt ge ds
  | [] => rfl
  | d :: ds => by
    unfold lcLoop lcc
    rw [← h1 d, lcLoop_of h1 h2 h3 ds]
    rcases h3 d with ⟨E', e⟩ | e
    · rw [e, bind_leaf, bind_leaf, h2 d E' e]
    · rw [e]; rfl
theorem mLc_1 {mi : En → Tree (List D)} {vs : List Nat} {i : Nat} {mt : En → Tree Bool} {me : En → Tree D} {E : En} : mLc mi vs (gPut i) mt me E = (mi E).bind (lck (fun d => mt ((wipeE E vs).put i d)) (fun d => me ((wipeE E vs).put i d))) := by
  unfold mLc lck
  congr 1
  funext ds
  rw [lcLoop_of (g := gPut i) (E := wipeE E vs) (gt := fun d => mt ((wipeE E vs).put i d)) (ge := fun d => me ((wipeE E vs).put i d)) (fun d => rfl) (fun d E' h => by cases h; rfl) (fun d => .inl ⟨_, rfl⟩)]
theorem lcc_map {β : Type} {mt : D → Tree Bool} {me : D → Tree D} {dx f : β → D} : ∀ {L : List β}, (∀ x ∈ L, mt (dx x) = .leaf true ∧ me (dx x) = .leaf (f x)) → lcc mt me (L.map dx) = .leaf (L.map f)
  | [], _ => rfl
  | x :: L, h => by
    rw [List.map_cons, List.map_cons]
    unfold lcc
    rw [(h x List.mem_cons_self).1, bind_leaf, if_pos rfl, (h x List.mem_cons_self).2, bind_leaf, lcc_map fun y hy => h y (List.mem_cons_of_mem _ hy), bind_leaf]
/-- every item by a plain function -/
theorem lck_map {β : Type} (f : β → D) {mt : D → Tree Bool} {me : D → Tree D} {dx : β → D} {L : List β} (hl : L.length ≤ 100) (h : ∀ x ∈ L, mt (dx x) = .leaf true ∧ me (dx x) = .leaf (f x)) : lck mt me (L.map dx) = .leaf (L.map f) := by
  unfold lck
  rw [List.length_map, lineOk_s _ _ hl, lcc_map h]
def rng1 : D → Tree (List D)
  | .int j => if rOk j = true then leaf (rangeD 0 j) else fail
  | _ => fail
theorem mRange1_b {m : En → Tree D} {E : En} : mRange1 m E = (m E).bind rng1 := by
  unfold mRange1
  congr 1
theorem rOk_n {n : Nat} (h : n ≤ 100) : rOk (n : Int) = true := by
  unfold rOk
  rw [decide_eq_true (by omega), decide_eq_true (by omega)]; rfl
theorem rng1_n {n : Nat} (h : n ≤ 100) : rng1 (.int n) = .leaf ((List.range n).map fun i : Nat => .int (i : Int)) := by
  rw [← range_n]
  show (if rOk (n : Int) = true then leaf (rangeD 0 n) else fail) = _
  rw [rOk_n h, if_pos rfl]
/-- every item draws -/
theorem lccS {β : Type} {P : β → D → Prop} {mt : D → Tree Bool} {me : D → Tree D} {dx : β → D} : ∀ L : List β, (∀ x ∈ L, mt (dx x) = .leaf true ∧ AllS (P x) (me (dx x))) → AllS (fun ys => ∃ zs : List (β × D), ys = zs.map (·.2) ∧ zs.map (·.1) = L ∧ ∀ z ∈ zs, P z.1 z.2) (lcc mt me (L.map dx))
  | [], _ => by
    show AllS _ (Tree.leaf [])
    rw [allS_leaf]
    exact ⟨[], rfl, rfl, fun _ h => nomatch h⟩
  | x :: L, h => by
    have h1 := h x List.mem_cons_self
    have ih := lccS (P := P) L fun y hy => h y (List.mem_cons_of_mem _ hy)
    rw [List.map_cons]
    unfold lcc
    rw [h1.1, bind_leaf, if_pos rfl]
    refine allS_fun h1.2 fun y hy => allS_fun ih fun ys hys => ?_
    obtain ⟨zs, rfl, e2, hz⟩ := hys
    rw [allS_leaf]
    exact ⟨(x, y) :: zs, rfl, by rw [List.map_cons, e2], fun z m => (List.mem_cons.mp m).elim (fun e => e ▸ hy) (hz z)⟩
theorem lckS {β : Type} (P : β → D → Prop) {mt : D → Tree Bool} {me : D → Tree D} {dx : β → D} {L : List β} (hl : L.length ≤ 100) (h : ∀ x ∈ L, mt (dx x) = .leaf true ∧ AllS (P x) (me (dx x))) : AllS (fun ys => ∃ zs : List (β × D), ys = zs.map (·.2) ∧ zs.map (·.1) = L ∧ ∀ z ∈ zs, P z.1 z.2) (lck mt me (L.map dx)) := by
  unfold lck
  rw [List.length_map, lineOk_s _ _ hl]
  exact lccS L h
theorem bls_all : ∀ ys : List D, (∀ y ∈ ys, y = D.bl true) → fAll [.lst ys] = .leaf (.bl true)
  | ys, h => by
    have : ys = ys.map fun _ => D.bl true := by
      conv => lhs; rw [← List.map_id ys]
      exact List.map_congr_left fun y hy => h y hy
    rw [this]
    exact all_true ys
theorem max2_i (i j : Int) : fMax2 [.int i, .int j] = .leaf (.int (if j > i then j else i)) := rfl
theorem min2_i (i j : Int) : fMin2 [.int i, .int j] = .leaf (.int (if j < i then j else i)) := rfl
theorem pot_if {p q : Int} (h0 : 0 ≤ p) (h1 : 0 ≤ q) (h2 : q < 4294967296) : (decide (0 ≤ p) && decide (0 ≤ q) && decide (q < 4294967296)) = true := by
  rw [decide_eq_true h0, decide_eq_true h1, decide_eq_true h2]; rfl
theorem small_bb {i : Int} (h : i.natAbs < 10 ^ 40) : i.natAbs < BB := Nat.lt_of_lt_of_le h (by decide +kernel)
theorem scr_at (ns : List Int) (k : Nat) (h : k < ns.length) : ∃ a, opIx (.scr ns) (.int (k : Int)) = .leaf (.int a) := by
  refine ⟨ns[k], ?_⟩
  show ixO _ _ _ = _
  unfold ixO atI ixN
  simp [h]
def potK : List D → Tree Out
  | [.int p, .int q] => if (decide (0 ≤ p) && decide (0 ≤ q) && decide (q < 4294967296)) = true then leaf (.rt .pot) else fail
  | _ => fail
theorem oPot_b {ml : En → Tree (List D)} {E : En} : oPot ml E = (ml E).bind potK := by
  unfold oPot
  congr 1
theorem potK_i {p q : Int} (h : (decide (0 ≤ p) && decide (0 ≤ q) && decide (q < 4294967296)) = true) : potK [.int p, .int q] = .leaf (.rt .pot) := if_pos h
end R

set_option Elab.async false
set_option linter.all false
set_option maxRecDepth 100000
set_option maxHeartbeats 2000000
/-! x, y, z = .. in an except suite -/
namespace R
open PySem PySem.Spec PyProof.Rows L2 HotX
section
variable {prog : Program} {w : World} {A : Around} {E : Value → Shared → Prop} {s : Shared}
/-- a tuple's iterator at its end, an exception being handled -/
theorem tupEnd_hot {it t x1 : Addr} {i : Nat} {its : Array Value} {Q : Option Value → Shared → Prop} (hot : HotAt A x1 s.heap) (hi : IsTupIter s.heap it t i) (ht : IsTup s.heap t its) (no : its[i]? = none) (ne : x1 ≠ it)
    (k : ∀ g, Heap.ExtBut it s.heap g → Q none { s with heap := g }) : wpAny (model prog w) A (pyNext (.ref it)) Q E s := by
  obtain ⟨o, ho, hc, hd⟩ := id hi
  obtain ⟨ol, hol, _, nl, hdl⟩ := ht
  obtain ⟨hh, o1, vs1, h1, d1, c1⟩ := hot
  unfold pyNext
  refine wpAny_bind (wpAny_attempt (wpAny_callSpecial?_slot (name := Str.ofString "__next__") hi.typeIs slot_tupleiter_next (wpAny_call_entry slot_tupleiter_next hi.typeIs entry_tupleiter_next ?_ (args_tupleiter_next _))))
  show wpAny _ _ (field (.ref it) 0 >>= fun _ => _) _ _ s
  refine wpAny_bind (wpAny_field ho hd (x := .ref t) rfl ?_)
  show wpAny _ _ (if (Value.ref t == Value.none) = true then _ else _) _ _ _
  rw [if_neg (show ¬ ((Value.ref t == Value.none) = true) by simp)]
  show wpAny _ _ (field (.ref it) 1 >>= fun _ => _) _ _ s
  refine wpAny_bind (wpAny_field ho hd (x := .int i 0) rfl ?_)
  show wpAny _ _ (seqItems? (.ref t) >>= fun _ => _) _ _ s
  refine wpAny_bind (wpAny_seqItems hol hdl ?_)
  simp only [Int.toNat_natCast, no]
  refine wpAny_bind (wpAny_rule (wpAny_bind (wpAny_setField ho hd (by simp) ?_)))
  have h1' : (s.heap.update it (Obj.mapFields (·.setIfInBounds 0 .none))).get? x1 = some o1 := by
    rw [Heap.get?_update_other _ _ (Ne.symm ne)]; exact h1
  show wpAny _ _ (newExc (.type "StopIteration") [] >>= fun _ => _) _ _ _
  refine wpAny_bind ?_
  simp only [newExc, newTuple]
  refine wpAny_bind (wpAny_newObj_type ?_ (by size_fits))
  refine wpAny_bind (m := firstArgMember _ _) (wpAny_of_eq (a := Value.none) (by first | rfl | (simp only [firstArgMember]; rfl)) ?_)
  refine wpAny_newObj_type ?_ (by size_fits)
  refine raiseNew_hot ⟨hh, o1, vs1, Heap.get?_push_of_some _ (Heap.get?_push_of_some _ h1'), d1, c1⟩ (Nat.ne_of_lt (Heap.lt_size (Heap.get?_push_of_some _ h1'))) (Heap.get?_push_size _ rfl) rfl (by first | (simp; done) | (simp; omega) | decide) ?_
  refine wpAny_bind (wpAny_isInstance (T := "StopIteration") (b := true) ⟨_, Heap.get?_update_self _ (Heap.get?_push_size _ rfl) rfl, rfl⟩ isSubtype_stop ?_)
  refine wpAny_pure (k _ fun b ob hb e => ?_)
  have e1 : (s.heap.update it (Obj.mapFields (·.setIfInBounds 0 .none))).get? b = some ob := by
    rw [Heap.get?_update_other _ _ (Ne.symm hb)]; exact e
  rw [Heap.get?_update_other _ _ (Nat.ne_of_gt (Heap.lt_size (Heap.get?_push_of_some _ e1)))]
  exact Heap.get?_push_of_some _ (Heap.get?_push_of_some _ e1)
theorem unpack_hot {t x1 : Addr} {items : Array Value} {Q : List Value → Shared → Prop} (hot : HotAt A x1 s.heap) (ht : IsTup s.heap t items) (k : ∀ g, (∀ b o, s.heap.get? b = some o → g.get? b = some o) → Q items.toList { s with heap := g }) :
    wpAny (model prog w) A (unpackItems (.ref t) items.size none) Q E s := by
  obtain ⟨hh, o1, vs1, h1, d1, c1⟩ := hot
  have ne : t ≠ s.heap.objs.size := by
    obtain ⟨o, ho, _⟩ := ht
    exact Nat.ne_of_lt (Heap.lt_size ho)
  have nx : x1 ≠ s.heap.objs.size := Nat.ne_of_lt (Heap.lt_size h1)
  unfold unpackItems
  refine wpAny_bind ?_
  · unfold notIterableAtAll
    refine wpAny_bind (wpAny_specialOf ht.typeIs slot_tuple_iter.lookup (wpAny_pure ?_))
    simp only [Bool.false_eq_true, if_false]
    refine wpAny_bind (wpAny_holding (iter_tuple ht (wpAny_bind (wpAny_holding (draw_tuple ne items.size 0 _ _ ⟨_, Heap.get?_push_size _ rfl, rfl, rfl⟩ (ht.push _) (by omega) fun g1 i1 b1 => ?_)))))
    have all : List.take items.size (List.drop 0 items.toList) = items.toList := (congrArg (List.take items.size) (List.drop_zero)).trans (List.take_of_length_le (by simp))
    rw [all, if_neg (by simp)]
    have t1 : IsTup g1 t items := (ht.push _).extBut b1.extBut ne
    have x1' : g1.get? x1 = some o1 := b1.extBut x1 o1 nx (Heap.get?_push_of_some _ h1)
    refine wpAny_bind (wpAny_holding (tupEnd_hot ⟨hh, o1, vs1, x1', d1, c1⟩ i1 t1 (by simp) nx fun g2 b2 => ?_))
    simp only [Option.isSome_none, Bool.false_eq_true, if_false]
    refine wpAny_pure (k g2 fun b o e => ?_)
    have nb : b ≠ s.heap.objs.size := Nat.ne_of_lt (Heap.lt_size e)
    exact b2 b o nb (b1.extBut b o nb (Heap.get?_push_of_some _ e))
end
/-- x, y, z = a, b, c while an exception is handled whose context is None -/
theorem ps_par3H {X : Cx} {i j l : Nat} {x y z : Str} {a b c : Expr} {ta : TA} {px py pz pt pos : Pos} {kt k2 pt2} (hot : L2H.HotC X) (nd : X.N.Nodup) (hi : X.N[i]? = some x) (hj : X.N[j]? = some y) (hl : X.N[l]? = some z) (ij : i ≠ j) (il : i ≠ l) (jl : j ≠ l)
    (lx : X.env.scope.names.lookup x = some .local) (ly : X.env.scope.names.lookup y = some .local) (lz : X.env.scope.names.lookup z = some .local) (ha : PA X [a, b, c] ta)
    (sw : swappedStores [.Tuple [.Name x px, .Name y py, .Name z pz] kt pt] (.Tuple [a, b, c] k2 pt2) X.env = pure (some [x, y, z]))
    (so : swapsWithSole [.Tuple [.Name x px, .Name y py, .Name z pz] kt pt] (.Tuple [a, b, c] k2 pt2) pos.line X.env = pure false := by rfl) :
    PS X (.Assign [.Tuple [.Name x px, .Name y py, .Name z pz] kt pt] (.Tuple [a, b, c] k2 pt2) pos) (tPar3 i j l ta) := by
  refine ⟨fun pn s σ H D I0 h => ?_⟩
  rw [exec_Assign_arm]; refine wpAny_bind (wpAny_standAt ?_)
  rw [so]; refine wpAny_bind (wpAny_pure ?_)
  rw [if_neg (by decide)]
  refine wpAny_bind (Tuple_ (thn (ha.run _ pn s σ H _ I0 h) fun us s1 ⟨vs, H1, I1, r1, v1, v2, v3, e1, q1⟩ => ?_))
  subst e1
  obtain ⟨u1, u2, u3, rfl, w1, w2, w3⟩ : ∃ u1 u2 u3, us = [u1, u2, u3] ∧ RelV v1 u1 ∧ RelV v2 u2 ∧ RelV v3 u3 := by
    cases r1 with
    | cons p q => cases q with
      | cons p' q' => cases q' with
        | cons p2 q2 => cases q2; exact ⟨_, _, _, rfl, p, p', p2⟩
  refine wpAny_newObj_type ?_ (by show 3 ≤ sizeLine; decide)
  have I2 : Inv X pn σ H1 { s1 with heap := s1.heap.push { cls := .type "tuple", data := .seq [u1, u2, u3].toArray } } := I1.kept (t' := s1.toks) fun b o z => Heap.get?_push_of_some _ z
  obtain ⟨x1, ht⟩ := hot.at I2
  rw [sw]; refine wpAny_bind (wpAny_pure ?_)
  show wpAny _ X.A (do rule "assign.swapped-stores"; let items ← unpackItems (.ref s1.heap.objs.size) 3 none; assignInOrder [fun v => bindName X.env z v, fun v => bindName X.env y v, fun v => bindName X.env x v] items.reverse; pure Flow.next) _ _ _
  refine wpAny_bind (wpAny_rule (wpAny_bind (unpack_hot (items := #[u1, u2, u3]) ht (IsTup.new s1.heap _) fun g hg => ?_)))
  have I3 := I2.kept (h' := g) (t' := s1.toks) fun b o z => hg b o z
  show wpAny _ X.A (assignInOrder [fun v => bindName X.env z v, fun v => bindName X.env y v, fun v => bindName X.env x v] [u3, u2, u1] >>= fun _ => pure Flow.next) _ _ _
  refine wpAny_bind (assignInOrder_cons (wpAny_bindName (store_ok I3 nd hl (.inl lz) w3 (fun s2 I4 => assignInOrder_cons (wpAny_bindName (store_ok I4 nd hj (.inl ly) w2 (fun s3 I5 => assignInOrder_cons (wpAny_bindName (store_ok I5 nd hi (.inl lx) w1 (fun s4 I6 => assignInOrder_nil (wpAny_pure ?_)) (.inr lx)))) (.inr ly)))) (.inr lz))))
  rw [List.set_comm _ _ (Ne.symm jl), List.set_comm _ _ (Ne.symm il), List.set_comm _ _ (Ne.symm ij)] at I6
  exact ⟨_, H1, I6, q1⟩
theorem hot_suite {X : Cx} {a : Addr} {ob : Obj} {cls : Value} {d : Option Addr} {q : List (Addr × Obj)} (hz : L2N.Zn cls d ob) (hf : ∃ fs, ob.data = .fields fs) : L2H.HotC (X.suite a ((a, ob) :: q)) := by
  obtain ⟨fs, e⟩ := hf
  exact ⟨(a, ob), ⟨rfl, fs, e, hz.2.2 fs e⟩, List.mem_cons_self⟩
open Tree (leaf fail)
/-- x, y, z = .. in a suite -/
theorem su_par3H {X : Cx} {C : Nat → Value} {i : Nat} {es : List Expr} {ms : SuL} {st : Stmt} {i1 i2 i3 : Nat} (h : SXa X C i es ms) (hp : ∀ (a : Addr) (q : List (Addr × Obj)) (ta : TA), L2H.HotC (X.suite a q) → PA (X.suite a q) es ta → PS (X.suite a q) st (tPar3 i1 i2 i3 ta)) :
    SuOk X [st] (tSuV X.K C i (fun k v E => (ms k v E).bind fun ds => match ds with
      | [d1, d2, d3] => leaf (.nx (((E.put i1 d1).put i2 d2).put i3 d3))
      | _ => fail)) := by
  refine fun a ob cls d q hz hf => pss_one (PS.weak (hp a _ _ (hot_suite hz hf) (h.pa a ob cls d q hz hf)) fun D0 σ H ⟨k, v, F0, H0, F, E, j1, j2, j3, e, r, q⟩ => ?_)
  refine ⟨k, v, B0 H0, F, E, ⟨j1, j2, j3⟩, e.good, r, Tree.all_mono (fun ds kq ws F1 H1 e1 p1 => ?_) (Tree.all_bind.mp q)⟩
  cases p1 with
  | nil => exact False.elim kq
  | cons a1 p1 =>
    cases p1 with
    | nil => exact False.elim kq
    | cons a2 p1 =>
      cases p1 with
      | nil => exact False.elim kq
      | cons a3 p1 =>
        cases p1 with
        | nil => exact ⟨_, _, _, rfl, (show Post X.K F0 H0 F D0 (.nx _) from kq) _ F1 H1 (e.trans e1) e1.le ((((r.ext e1).put i1 a1).put i2 a2).put i3 a3)⟩
        | cons _ _ => exact False.elim kq
end R

set_option Elab.async false
set_option linter.all false
set_option maxRecDepth 100000
set_option maxHeartbeats 2000000
/-! sorted of data; in, of data; sorted(set(..)), len(set(..)) of ints and of tuples of ints -/
/-! sorted of a tuple, set of a list of ints: the library's calls, for the other kind of sequence -/
namespace PySem.W
open PySem PyProof.Rows
section
variable {pr : Program} {wl : World} {Ar : Around} {X0 : Value → Shared → Prop} {sh : Shared}
/-- the new list of a tuple's items -/
def tupCopy (h : Heap) (us : List Value) : Heap := (h.push (seqObj "list" #[] 0)).update h.objs.size (Obj.mapSeq (· ++ us.toArray))
theorem collect_tup {tp : Addr} {us : List Value} {R0 : List Value → Shared → Prop} (htp : sh.heap.IsTuple tp us.toArray) (hq : R0 us { sh with heap := tupCopy sh.heap us }) (hlen : us.length ≤ sizeLine) : wpAny (model pr wl) Ar (collect (.ref tp)) R0 X0 sh := by
  obtain ⟨ob, hob, hcl, m, hdat⟩ := id htp
  have hob2 : (sh.heap.push (seqObj "list" #[] 0)).get? tp = some ob := Heap.get?_push_of_some _ hob
  have ty : (Value.type "tuple" == Value.type "tuple") = true := by rfl
  have em : ((#[] : Array Value) ++ us.toArray).toList = us := by simp
  have sz2 : (#[] ++ us.toArray).size ≤ sizeLine + 1 := by (simp only [Array.size_append, List.size_toArray, List.length_nil]; omega)
  unfold collect
  refine wpAny_bind (wpAny_runValue (codeAny_builtin entry_proto_collect' (show wpAny _ _ (do again (.builtin "list.__iadd__" ⟨[← newList [], .ref tp], []⟩)) _ _ sh from ?_)))
  refine wpAny_bind (wpAny_newList (wpAny_pure ⟨Code.quiet_builtin _ (by decide +kernel), codeAny_builtin entry_list_iadd' (show wpAny _ _ (Builtin.List.listExtendWith (.ref sh.heap.objs.size) (.ref tp) (.ref sh.heap.objs.size)) _ _ { sh with heap := sh.heap.push (seqObj "list" #[] 0) } from ?_)⟩))
  unfold Builtin.List.listExtendWith; refine wpAny_bind (wpAny_typeOf (T := "tuple") ⟨ob, hob2, hcl⟩ ?_); rw [if_pos (by (rw [ty]; simp))]
  refine wpAny_bind (listItems_at hob2 hdat ?_); refine wpAny_bind (listItems_at (xs := #[]) (n := 0) (Heap.get?_push_size _ rfl) rfl ?_); rw [if_neg (by simp)]
  refine wpAny_bind (listUpdate_at (xs := #[]) (n := 0) (Heap.get?_push_size _ rfl) rfl (wpAny_pure ?_) (Nat.zero_le _) sz2)
  show wpAny (model pr wl) Ar (do
      let o2 ← load sh.heap.objs.size
      match o2.data with
      | .seq ys _ => pure ys.toList
      | _ => unsupported "internal:collect") R0 X0 { sh with heap := tupCopy sh.heap us }
  refine wpAny_bind (wpAny_load (get?_update_seq (Heap.get?_push_size _ rfl) _) (show wpAny _ _ (pure ((#[] : Array Value) ++ us.toArray).toList) R0 X0 _ from ?_)); rw [em]; exact wpAny_pure hq
theorem sorted_dataT {β : Type} {us : List Value} {zs : List β} {en : β → PyData} {Rl : Value → β → Prop} {tp : Addr} {R0 : Value → Shared → Prop} (htp : sh.heap.IsTuple tp us.toArray) (e : EachIs Rl us zs) (er : EachIs (fun v b => ∃ as, Reads sh.heap v (en b) as) us zs) (hal : AllAlike (zs.map en)) (hk : Sortable (zs.map en)) (hL : zs.length ≤ sizeLine)
    (hu : ∀ b ∈ zs, Ar.units + 2 + (en b).depth < cLine) (hq : ∀ ws, ws.length = zs.length → EachIs Rl ws (zs.mergeSort (dataLe false en)) → R0 (.ref (sh.heap.objs.size + 1)) { sh with heap := sortedAll sh.heap us ws.toArray }) :
    wpAny (model pr wl) Ar (call (.builtin "sorted") [.ref tp]) R0 X0 sh := by
  have hlen : us.length ≤ sizeLine := by (rw [e.length]; exact hL)
  have ed : EachIs (fun v b => ∃ as, Reads (sortingHeap (copyHeap sh.heap us) (sh.heap.objs.size + 1) us) v (en b) as) us zs := er.mono fun _ _ ⟨as, r⟩ => ⟨as, PyProof.Rows.Reads.keeps (fun _ _ => sorting_copy_old) r⟩
  have S := SortsAt.data (prog := pr) (w := wl) (A := Ar.in1.in1) (s := { sh with heap := sortingHeap (copyHeap sh.heap us) (sh.heap.objs.size + 1) us }) (each_map (R := fun v d => ∃ as, Reads (sortingHeap (copyHeap sh.heap us) (sh.heap.objs.size + 1) us) v d as) en ed) hal hk (bound_map hu)
  have fin := hq _ ((sortVals_length false rfl).trans e.length) (sortVals_data false e ed hal)
  have hsize : (tupCopy sh.heap us).objs.size = sh.heap.objs.size + 1 := by (unfold tupCopy; rw [Heap.size_update]; exact size_push' _ _)
  refine call_function_entry_kw kind_sorted plain_sorted entry_sorted (args_sorted1 _) ?_; unfold Builtin.«sorted»
  refine wpAny_bind (m := checkCount "sorted" 1 1 _) (wpAny_pure (wpAny_bind (collect_tup htp (wpAny_bind (wpAny_newList ?_ hlen)) hlen)))
  show wpAny _ _ _ _ _ ({ sh with heap := copyHeap sh.heap us } : Shared); rw [hsize]
  refine wpAny_bind (wpAny_holding (wpAny_call_entry_kw slot_list_sort ⟨_, copyHeap_at sh.heap us, rfl⟩ entry_list_sort ?go (args_list_sort _)))
  refine wpAny_mono (list_sort_vals (s := { sh with heap := copyHeap sh.heap us }) (P := fun f s2 => f = .done (.ret .none) ∧ R0 (.ref (sh.heap.objs.size + 1)) s2) (copyHeap_at sh.heap us) S hlen ⟨rfl, fin⟩) (fun f s2 ⟨e1, h2⟩ => ?_) fun _ _ z => z
  subst e1; exact ⟨.none, rfl, wpAny_pure ⟨_, rfl, h2⟩⟩
end
end PySem.W
namespace L2
open PySem PyProof.Rows
section
variable {pr : Program} {wl : World} {Ar : Around} {X0 : Value → Shared → Prop} {sh : Shared}
def noSet (wl : World) : Obj := { cls := .type "set", dict := none, data := .set #[] 0 (.fresh 0 0 (!wl.params.followText "set-order")) }
set_option maxHeartbeats 4000000 in
theorem call_set_lstI {tp : Addr} {zs : Array Value} (ns : List Int) {R0 : Value → Shared → Prop} (hh : Ar.handled = none) (htp : sh.heap.IsList tp zs) (hit : IntsAre zs.toList ns) (hb : ns.length + 1 < scanBound)
    (hq : ∀ (h' : Heap) (tk c : Nat), SetR wl h' sh.heap.objs.size (fun j => decide (j ∈ ns)) c → (∀ b o, sh.heap.get? b = some o → h'.get? b = some o) → R0 (.ref sh.heap.objs.size) { sh with heap := h', toks := tk }) :
    wpAny (model pr wl) Ar (call (.type "set") [.ref tp]) R0 X0 sh := by
  have hlen : zs.size = ns.length := by (have q := IntsAre.length hit; rw [Array.length_toList] at q; exact q)
  obtain ⟨cv, tl, mro⟩ := F.called_set.mro
  have f1 := F.called_set.made; have f2 := F.called_set.sub; have f3 := F.called_set.notType; have f4 := F.called_set.canCreate; have f5 := F.typeCall_set_1 (.ref tp)
  refine wpAny_call (codeAny_of_tree (show wpAny _ _ (callAny (.type "set") _) _ _ _ from wpAny_pure ⟨Code.quiet_builtin _ (by decide +kernel), codeAny_builtin F.entry_type_call ?_⟩))
  rw [Around.under_plain (weight_type_call_type "set" [.ref tp] []) rfl]
  (repeat (any_goals (first | assumption | wp_step)))
  refine codeAny_mono (code_set_led1 (.ref tp) (E := X0) (Q₁ := fun obj s1 => obj = .ref sh.heap.objs.size ∧ s1 = { sh with heap := sh.heap.push (noSet wl) }) ⟨rfl, rfl⟩) fun r s1 hr => ?_
  cases r with
  | error e => exact hr
  | ok fl =>
    cases fl with
    | ret obj =>
      obtain ⟨rfl, rfl⟩ := hr
      have g1 : (sh.heap.push (noSet wl)).get? sh.heap.objs.size = some (noSet wl) := Heap.get?_push_size _ rfl
      have g2 : Shared.TypeIs { sh with heap := sh.heap.push (noSet wl) } (.ref sh.heap.objs.size) "set" := ⟨_, g1, rfl⟩
      have f6 := F.called_set.init.lookup; have f7 := F.called_set.init.bind (.ref sh.heap.objs.size)
      (repeat (any_goals (first | assumption | wp_step)))
      refine codeAny_mono (codeAny_call_builtin (R := wants (fun r s2 => r = .none ∧ ∃ h' tk c, s2 = { sh with heap := h', toks := tk } ∧ SetR wl h' sh.heap.objs.size (fun j => decide (j ∈ ns)) c ∧ (∀ b o, sh.heap.get? b = some o → h'.get? b = some o)) X0) F.called_set.init.plain F.entry_set_init (check_set_init_1 g2 ?_)) fun r2 s2 hr2 => ?_
      · obtain ⟨ol, hol, hcl, nl, hdl⟩ := htp
        obtain ⟨ocls, odict, odata, oslots⟩ := ol
        (simp only at hcl hdl; subst hcl; subst hdl)
        have hol2 : (sh.heap.push (noSet wl)).get? tp = some { cls := .type "list", dict := odict, data := .seq zs nl, slots := oslots } := Heap.get?_push_of_some _ hol
        have f8 := F.sub_list_set; have f9 := F.sub_list_frozenset
        have ne1 : (Value.type "list" == Value.type "dict") = false := by decide
        have hl1 : (sh.heap.push (noSet wl)).IsList tp zs := ⟨_, hol2, rfl, nl, rfl⟩
        unfold Builtin.«set.__init__» noKeywords Builtin.Frozenset.updateFrom
        generalize hPI : pyIter = PI
        (wp_walk; subst hPI)
        refine wpAny_pyIter_list hl1 (wpAny_bind (wpAny_runValue ?_))
        have lt1 : tp < sh.heap.objs.size := Heap.lt_size hol
        have hh3 : Ar.in1.in1.in1.handled = none := by simp [hh]
        have z1 : (sh.heap.push (noSet wl)).objs.size = sh.heap.objs.size + 1 := Heap.size_push ..
        have ne2 : tp ≠ (sh.heap.push (noSet wl)).objs.size := by (rw [z1]; exact Nat.ne_of_lt (Nat.lt_succ_of_lt lt1))
        have ne3 : sh.heap.objs.size ∉ [(sh.heap.push (noSet wl)).objs.size, tp] := by
          (rw [z1]; simp only [List.mem_cons, List.not_mem_nil, or_false, not_or]; exact ⟨Nat.ne_of_lt (Nat.lt_succ_self _), Nat.ne_of_gt lt1⟩)
        have val : ∀ (i : Nat) (v : Value), zs[i]? = some v → ∃ k t, ns[i]? = some k ∧ v = .int k t := fun i v hv => by
          have hi : i < ns.length := by (rw [← hlen]; exact (Array.getElem?_eq_some_iff.mp hv).1)
          obtain ⟨t, e⟩ := PyProof.Rows.IntsAre.int_at hit i v (by (rw [Array.getElem?_toList]; exact hv))
          exact ⟨ns[i], t, List.getElem?_eq_getElem hi, by (rw [e, List.getD_eq_getElem?_getD, List.getElem?_eq_getElem hi] <;> rfl)⟩
        refine set_update_ints ((Walks.list hh3 _ tp ne2 zs).toS) sh.heap.objs.size ne3 ns hlen hb val (zs.size - 0) 0 _ (by omega) (Nat.zero_le _) ⟨⟨_, Heap.get?_push_size _ rfl, rfl, rfl⟩, (hl1.push _)⟩ ⟨0, Nat.le_refl 0, setR_new_at (Heap.get?_push_of_some _ g1)⟩ ?go
        intro s' c' hm hc' hS'
        obtain ⟨h', ga, da, tk, oa⟩ := s'
        have eg : ga = sh.gens := hm.gens; have ed : da = sh.drawn := hm.drawn; have eo : oa = sh.os := hm.os
        (subst eg; subst ed; subst eo)
        refine (show wpAny _ _ _ _ _ _ from wpAny_pure (show wpAny _ _ (ret Value.none) _ _ _ from wpAny_pure ⟨rfl, h', tk, c', rfl, hS', fun b o e => ?_⟩))
        have lt2 : b < sh.heap.objs.size := Heap.lt_size e
        refine hm.heap b o ?_ (Heap.get?_push_of_some _ (Heap.get?_push_of_some _ e))
        (rw [z1]; simp only [List.mem_cons, List.not_mem_nil, or_false, not_or]; exact ⟨Nat.ne_of_lt lt2, Nat.ne_of_lt (Nat.lt_succ_of_lt lt2)⟩)
      · cases r2 with
        | error e => exact hr2
        | ok fl2 =>
          cases fl2 with
          | ret r =>
            obtain ⟨rfl, h', tk, c', rfl, hS', hk'⟩ := hr2
            (repeat (any_goals (first | assumption | wp_step)))
            exact hq _ _ _ hS' hk'
          | _ => exact hr2.elim
    | _ => exact hr.elim
end
end L2
namespace R
open PySem PySem.Spec PyProof.Rows L2
open Tree (leaf fail)
open PySem.W (AllAlike Sortable dataLe EachIs dataLt alike)
/-! ### in -/
section
variable {X : Cx}
def rInA (K : PySem.W.Frag) : R2 := fun x y H Q => rIn K false x y H Q ∨ rInD K x y H Q
def rNotInA (K : PySem.W.Frag) : R2 := fun x y H Q => rIn K true x y H Q ∨ rNotInD K x y H Q
theorem op_inA (hu : X.A.units + 65 < cLine) : OpR X (compareOp .In) (rInA X.K) := OpR.or op_in_seq (op_inD hu)
theorem op_notInA (hu : X.A.units + 65 < cLine) : OpR X (compareOp .NotIn) (rNotInA X.K) := OpR.or op_notIn_seq (op_notInD hu)
end
def inA (d : D) (ds : List D) : Tree Bool := if (flatD d && ds.all flatD) = true then leaf (ds.any fun e => eqD 1 e d) else if (fitD 11 d && ds.all (fitD 11)) = true then leaf (ds.any fun e => eqD 11 e d) else fail
def cInA (neg : Bool) : D → D → Tree Bool
  | d, .lst ds => (inA d ds).bind fun b => leaf (if neg then !b else b)
  | d, .tup ds => (inB d ds).bind fun b => leaf (if neg then !b else b)
  | _, _ => fail
theorem any_eqv {d : D} (hd : fitD 11 d = true) : ∀ ds : List D, ds.all (fitD 11) = true → ((ds.map (toPy 11)).any fun z => PyData.eqv z (toPy 11 d)) = ds.any fun e => eqD 11 e d
  | [], _ => rfl
  | e :: ds, h => by
    rw [List.all_cons, Bool.and_eq_true] at h
    rw [List.map_cons, List.any_cons, List.any_cons, eqv_py 11 e d h.1 hd, any_eqv hd ds h.2]
theorem c2_inA (neg : Bool) {K : PySem.W.Frag} : Cmp2 K (cond neg (rNotInA K) (rInA K)) (cInA neg) := by
  intro F H v u d e Q g p1 p2 q
  have old : ∀ (q : (cIn neg d e).all fun b => Q (.bl b) H), rIn K neg v u H Q := fun q => c2_in neg F H v u d e Q g p1 p2 q
  have wr : rIn K neg v u H Q → cond neg (rNotInA K) (rInA K) v u H Q := fun h => by
    cases neg
    · exact .inl h
    · exact .inl h
  cases e with
  | tup ds => exact wr (old q)
  | lst ds =>
    have q : ((inA d ds).bind fun b => leaf (if neg then !b else b)).all fun b => Q (.bl b) H := q
    have q := Tree.all_bind.mp q
    by_cases h : (flatD d && ds.all flatD) = true
    · have e0 : inA d ds = inB d ds := by
        unfold inA inB
        rw [if_pos h, if_pos h]
      rw [e0] at q
      exact wr (old (show ((inB d ds).bind fun b => leaf (if neg then !b else b)).all fun b => Q (.bl b) H from Tree.all_bind.mpr q))
    · by_cases h2 : (fitD 11 d && ds.all (fitD 11)) = true
      · have e0 : inA d ds = leaf (ds.any fun e => eqD 11 e d) := by
          unfold inA
          rw [if_neg h, if_pos h2]
        rw [e0] at q
        rw [Bool.and_eq_true] at h2
        have hl : fitD 12 (.lst ds) = true := h2.2
        have s1 := shaped_fit (n := 11) (by decide) h2.1
        have s2 := shaped_fit (n := 12) (by decide) hl
        have d1 := dpk_of g h2.1 p1
        have d2 := dpk_of g hl p2
        have e0 := any_eqv h2.1 ds h2.2
        have q : Q (.bl (if neg then !(ds.any fun e => eqD 11 e d) else ds.any fun e => eqD 11 e d)) H := q
        cases neg
        · exact .inr ⟨toPy 11 d, ds.map (toPy 11), d1, d2, s1, s2, by rw [e0]; exact q⟩
        · exact .inr ⟨toPy 11 d, ds.map (toPy 11), d1, d2, s1, s2, by rw [e0]; exact q⟩
      · have e0 : inA d ds = fail := by
          unfold inA
          rw [if_neg h, if_neg h2]
        rw [e0] at q
        exact False.elim q
  | _ => exact False.elim q
/-! ### sorted, of data -/
section
variable {X : Cx}
def rSortD (K : PySem.W.Frag) : List V → Hp → VK → Prop := fun vs H Q => ∃ (a : Addr) (xs : List V) (ds : List PyData), vs = [V.ref a] ∧ (SqL K H a xs ∨ SqT K H a xs) ∧ DpAll K H xs ds ∧ AllAlike ds ∧ Sortable ds ∧ (∀ d ∈ ds, d.depth ≤ 12) ∧
  ∀ p, H p = none → Q (.ref p) (upd H p (.lst (((xs.zip ds).mergeSort (dataLe false (·.2))).map (·.1))))
theorem dpAll_len {K : PySem.W.Frag} {H : Hp} : ∀ {xs : List V} {ds : List PyData}, DpAll K H xs ds → xs.length = ds.length
  | _, _, .nil => rfl
  | _, _, .cons _ r => by rw [List.length_cons, List.length_cons, dpAll_len r]
theorem zip_snd' {α β : Type} : ∀ {xs : List α} {ds : List β}, xs.length = ds.length → (xs.zip ds).map (·.2) = ds
  | [], [], _ => rfl
  | x :: xs, d :: ds, h => by
    rw [List.zip_cons_cons, List.map_cons, zip_snd' (by simpa using h)]
theorem each_vals {its : List Value} : ∀ {xs : List V} {ds : List PyData}, Vals xs its → xs.length = ds.length → EachIs (fun v (b : V × PyData) => RelV b.1 v) its (xs.zip ds) := by
  intro xs ds h
  induction h generalizing ds with
  | nil => intro _; cases ds with
    | nil => exact .nil
    | cons _ _ => exact .nil
  | cons r _ ih =>
    intro hl
    cases ds with
    | nil => cases hl
    | cons d ds => exact .cons r (ih (by simpa using hl))
theorem vals_each : ∀ {out : List Value} {bs : List (V × PyData)}, EachIs (fun v (b : V × PyData) => RelV b.1 v) out bs → Vals (bs.map (·.1)) out
  | _, _, .nil => .nil
  | _, _, .cons r rs => .cons r (vals_each rs)
theorem each_reads {h : Heap} : ∀ {its : List Value} {ds : List PyData} {as : List Addr} {xs : List V}, ReadsAll h its ds as → xs.length = ds.length → EachIs (fun v (b : V × PyData) => ∃ as, Reads h v b.2 as) its (xs.zip ds) := by
  intro its ds
  induction ds generalizing its with
  | nil =>
    intro as xs r hl
    cases r
    cases xs with
    | nil => exact .nil
    | cons _ _ => cases hl
  | cons d ds ih =>
    intro as xs r hl
    cases r with
    | cons r rs =>
      cases xs with
      | nil => cases hl
      | cons x xs => exact .cons ⟨_, r⟩ (ih rs (by simpa using hl))
theorem cr_sortD (hu : X.A.units + 65 < cLine) : CallR X (.builtin "sorted") (rSortD X.K) := by
  intro pins s σ H vs us Q I r h
  obtain ⟨a, xs, ds, rfl, hs, hd, hal, hk, hdp, q⟩ := h
  rw [Vals.ref1 r]
  have hlen := dpAll_len hd
  have ez := zip_snd' hlen
  have fin : ∀ its : List Value, Vals xs its → xs.length ≤ sizeLine → ∀ out : List Value, out.length = (xs.zip ds).length → EachIs (fun v (b : V × PyData) => RelV b.1 v) out ((xs.zip ds).mergeSort (dataLe false (·.2))) →
      ∃ v' H', Inv X pins σ H' { s with heap := sortedAll s.heap its out.toArray } ∧ RelV v' (.ref (s.heap.objs.size + 1)) ∧ Q v' H' := fun its rv hz out h1 h2 => by
    obtain ⟨ep, he'⟩ := PyProof.Rows.sortedAll_at s.heap its out.toArray
    have hl2 : (((xs.zip ds).mergeSort (dataLe false (·.2))).map (·.1)).length ≤ sizeLine := by
      rw [List.length_map, List.length_mergeSort, List.length_zip]
      omega
    exact ⟨.ref _, upd H (s.heap.objs.size + 1) (.lst (((xs.zip ds).mergeSort (dataLe false (·.2))).map (·.1))), I.laid (t' := s.toks) (fun _ _ => PyProof.Rows.sortedAll_old) (Nat.le_succ _) ⟨hl2, out.toArray.toList, ep, by simpa using vals_each h2, he'⟩, rfl, q _ (I.hok.fresh (Nat.le_succ _))⟩
  rcases hs with hs | hs
  · obtain ⟨its, rv, hl, hz⟩ := I.list hs
    obtain ⟨as, hr⟩ := Dp.readsAll I ds xs its hd rv
    refine PySem.W.sorted_data (R := fun v (b : V × PyData) => RelV b.1 v) (enc := (·.2)) (bs := xs.zip ds) hl.isList (each_vals rv hlen) (each_reads hr hlen) (by rw [ez]; exact hal) (by rw [ez]; exact hk) (by rw [List.length_zip]; omega) (fun b hb => ?_) fun out h1 h2 => fin its rv hz out h1 h2
    have := hdp b.2 (List.of_mem_zip hb).2
    omega
  · obtain ⟨its, rv, hl, hz⟩ := I.tuple hs
    obtain ⟨as, hr⟩ := Dp.readsAll I ds xs its hd rv
    refine PySem.W.sorted_dataT (Rl := fun v (b : V × PyData) => RelV b.1 v) (en := (·.2)) (zs := xs.zip ds) hl (each_vals rv hlen) (each_reads hr hlen) (by rw [ez]; exact hal) (by rw [ez]; exact hk) (by rw [List.length_zip]; omega) (fun b hb => ?_) fun out h1 h2 => fin its rv hz out h1 h2
    have := hdp b.2 (List.of_mem_zip hb).2
    omega
end
/-! ### sorted -/
def leD (d e : D) : Bool := !dataLt (toPy 11 e) (toPy 11 d)
def neTup : D → Bool
  | .tup (_ :: _) => true
  | _ => false
def plainD : D → Bool
  | .bl _ => true
  | .int _ => true
  | .str _ => true
  | .lst _ => true
  | _ => false
def okS (ds : List D) : Bool := ds.all (fitD 11) && (ds.all fun d => ds.all fun e => alike (toPy 11 d) (toPy 11 e)) && (ds.all neTup || ds.all plainD)
def sortK : D → Tree (List D)
  | .lst ds => match intsD ds with
    | some is => leaf ((sortI is).map D.int)
    | none => if okS ds = true then leaf (ds.mergeSort leD) else fail
  | _ => fail
def mSortedA (m : En → Tree D) : En → Tree (List D) := fun E => (m E).bind sortK
theorem zip_reps {K : PySem.W.Frag} {F : Fz} : ∀ {xs : List V} {ds : List D}, Reps K F xs ds → ∀ z ∈ xs.zip ds, Rep K F z.1 z.2
  | _, _, .nil, _, h => nomatch h
  | _, _, .cons r rs, z, h => by
    rw [List.zip_cons_cons] at h
    rcases List.mem_cons.mp h with e | e
    · rw [e]; exact r
    · exact zip_reps rs z e
theorem reps_zip {K : PySem.W.Frag} {F : Fz} : ∀ {zs : List (V × D)}, (∀ z ∈ zs, Rep K F z.1 z.2) → Reps K F (zs.map (·.1)) (zs.map (·.2))
  | [], _ => .nil
  | z :: zs, h => .cons (h z List.mem_cons_self) (reps_zip fun y hy => h y (List.mem_cons_of_mem _ hy))
theorem sort_reps {K : PySem.W.Frag} {F : Fz} {xs : List V} {ds : List D} (r : Reps K F xs ds) : Reps K F (((xs.zip (ds.map (toPy 11))).mergeSort (dataLe false (·.2))).map (·.1)) (ds.mergeSort leD) := by
  have h1 := zip_reps r
  have hlen := r.length
  have e1 : ((xs.zip ds).mergeSort fun a b => leD a.2 b.2).map (fun z => (z.1, toPy 11 z.2)) = (xs.zip (ds.map (toPy 11))).mergeSort (dataLe false (·.2)) := by
    rw [List.map_mergeSort (s := dataLe false (fun b : V × PyData => b.2)) (fun a _ b _ => by rw [PySem.W.dataLe_eq]; rfl)]
    congr 1
    rw [List.zip_map_right]
    rfl
  have e2 : ((xs.zip ds).mergeSort fun a b => leD a.2 b.2).map (·.2) = ds.mergeSort leD := by
    rw [List.map_mergeSort (s := leD) (fun a _ b _ => rfl)]
    congr 1
    exact zip_snd' hlen
  rw [← e1, ← e2, List.map_map]
  exact reps_zip fun z hz => h1 z ((List.mergeSort_perm _ _).mem_iff.mp hz)
theorem okS_data {ds : List D} (h : okS ds = true) : ds.all (fitD 11) = true ∧ AllAlike (ds.map (toPy 11)) ∧ Sortable (ds.map (toPy 11)) ∧ ∀ d ∈ ds.map (toPy 11), d.depth ≤ 12 := by
  unfold okS at h
  rw [Bool.and_eq_true, Bool.and_eq_true] at h
  obtain ⟨⟨h1, h2⟩, h3⟩ := h
  refine ⟨h1, fun d hd e he => ?_, ?_, fun d hd => ?_⟩
  · obtain ⟨x, hx, rfl⟩ := List.mem_map.mp hd
    obtain ⟨y, hy, rfl⟩ := List.mem_map.mp he
    rw [List.all_eq_true] at h2
    have := h2 x hx
    rw [List.all_eq_true] at this
    exact this y hy
  · rw [Bool.or_eq_true, List.all_eq_true, List.all_eq_true] at h3
    rcases h3 with h3 | h3
    · refine .inl fun d hd => ?_
      obtain ⟨x, hx, rfl⟩ := List.mem_map.mp hd
      have := h3 x hx
      cases x with
      | tup xs =>
        cases xs with
        | nil => cases this
        | cons y ys => exact ⟨toPy 10 y, ys.map (toPy 10), rfl⟩
      | _ => cases this
    · refine .inr fun d hd => ?_
      obtain ⟨x, hx, rfl⟩ := List.mem_map.mp hd
      have := h3 x hx
      cases x with
      | bl b => exact ⟨by simp [toPy], by simp [toPy]⟩
      | int b => exact ⟨by simp [toPy], by simp [toPy]⟩
      | str b => exact ⟨by simp [toPy], by simp [toPy]⟩
      | lst b => exact ⟨by simp [toPy], by simp [toPy]⟩
      | _ => cases this
  · obtain ⟨x, hx, rfl⟩ := List.mem_map.mp hd
    exact Nat.le_trans (depth_py 11 x) (by decide)
theorem dps_of {K : PySem.W.Frag} {F : Fz} {H : Hp} (g : Good F H) : ∀ {xs : List V} {ds : List D}, Reps K F xs ds → ds.all (fitD 11) = true → DpAll K H xs (ds.map (toPy 11))
  | _, _, .nil, _ => .nil
  | _, _, .cons r rs, h => by
    rw [List.all_cons, Bool.and_eq_true] at h
    exact .cons (dp_of g 11 _ _ h.1 r) (dps_of g rs h.2)
def rSortA (K : PySem.W.Frag) : List V → Hp → VK → Prop := fun vs H Q => rSortedI K vs H Q ∨ rSortD K vs H Q
theorem cr_sortA {X : Cx} (hu : X.A.units + 65 < cLine) : CallR X (.builtin "sorted") (rSortA X.K) := CallR.or' cr_sortedI (cr_sortD hu)
def sortK2 : D → Tree (List D)
  | .lst ds => match intsD ds with
    | some is => leaf ((sortI is).map D.int)
    | none => if okS ds = true then leaf (ds.mergeSort leD) else fail
  | .tup ds => if okS ds = true then leaf (ds.mergeSort leD) else fail
  | _ => fail
def mSortedB (m : En → Tree D) : En → Tree (List D) := fun E => (m E).bind sortK2
section
variable {X : Cx} {e : Expr} {m : En → Tree D} {p pos : Pos}
theorem sl_sortedB (hu : X.A.units + 65 < cLine) (hg : Gl X "sorted") (hm : X.mg "sorted" = none) (ha : SP X e m) (he : starEach (e :: []) X.env = (false, eval e X.env) :: starEach [] X.env := by rfl) : SL X (.Call (.Name "sorted" p) [e] [] pos) (mSortedB m) := by
  refine ⟨PE.weak (pe_callB (cr_sortA hu) hg hm (by decide +kernel) (pa_cons ha.pe pa_nil he) (by decide) (by decide) he (by rfl)) fun σ H Q ⟨B, F, E, g, rl, q⟩ => ?_⟩
  refine ⟨B, F, E, g, rl, Tree.all_mono (fun d k v F1 H1 e1 p1 => ?_) (Tree.all_bind.mp q)⟩
  have deep : ∀ {a : Addr} {xs : List V} {ds : List D}, v = .ref a → (SqL X.K H1 a xs ∨ SqT X.K H1 a xs) → Reps X.K F1 xs ds → ((if okS ds = true then leaf (ds.mergeSort leD) else fail : Tree (List D)).all fun ds => ∀ a xs F' H', Ext F H F' H' → H' a = some (.lst xs) → F'.P a = none → ¬ F'.T a → NT H a → Reps X.K F' xs ds → Q (.ref a) H') → rSortD X.K [v] H1 Q := fun {a xs ds} hv hs r1 k => by
    subst hv
    by_cases ok : okS ds = true
    · rw [if_pos ok] at k
      obtain ⟨h1, h2, h3, h4⟩ := okS_data ok
      refine ⟨a, xs, ds.map (toPy 11), rfl, hs, dps_of e1.good r1 h1, h2, h3, h4, fun l hl => ?_⟩
      have f := e1.good.free hl
      exact k l _ F1 _ (e1.trans (Ext.new e1.good hl)) upd_same f.1 f.2 (ext_none g e1 hl) (sort_reps r1)
    · rw [if_neg ok] at k
      exact k.elim
  cases d with
  | lst ds =>
    obtain ⟨a, xs, rfl, h1, r1⟩ := p1.lst e1.good
    cases hi : intsD ds with
    | none =>
      have k : ((match intsD ds with | some is => leaf ((sortI is).map D.int) | none => if okS ds = true then leaf (ds.mergeSort leD) else fail) : Tree (List D)).all _ := k
      rw [hi] at k
      exact .inr (deep rfl (.inl (.of h1)) r1 k)
    | some is =>
      have k : ((match intsD ds with | some is => leaf ((sortI is).map D.int) | none => if okS ds = true then leaf (ds.mergeSort leD) else fail) : Tree (List D)).all _ := k
      rw [hi] at k
      have ex := ints_of hi r1
      subst ex
      refine .inl ⟨a, is, rfl, .of h1, fun ns' l hp hs hl => ?_⟩
      have en : ns' = sortI is := sorted_uniq (hp.trans (sortI_perm is).symm) hs (sortI_sorted is)
      subst en
      have f := e1.good.free hl
      exact k l _ F1 _ (e1.trans (Ext.new e1.good hl)) upd_same f.1 f.2 (ext_none g e1 hl) (repsInts _)
  | tup ds =>
    obtain ⟨a, xs, rfl, h1, r1⟩ := p1.tup e1.good
    exact .inr (deep rfl (.inr h1) r1 k)
  | _ => exact False.elim k
end
end R

set_option Elab.async false
set_option linter.all false
set_option maxRecDepth 100000
/-! sorted, by a merge sort that the kernel can run -/
namespace R
open PySem PySem.Spec PyProof.Rows L2
open Tree (leaf fail)
section
variable {α : Type} (le : α → α → Bool)
def mergeF : Nat → List α → List α → List α
  | 0, xs, ys => xs ++ ys
  | _ + 1, [], ys => ys
  | _ + 1, x :: xs, [] => x :: xs
  | n + 1, x :: xs, y :: ys => if le x y = true then x :: mergeF n xs (y :: ys) else y :: mergeF n (x :: xs) ys
theorem mergeF_eq : ∀ (n : Nat) (xs ys : List α), xs.length + ys.length ≤ n → mergeF le n xs ys = List.merge xs ys le
  | 0, [], [], _ => by simp [mergeF]
  | 0, _ :: _, _, h => by simp at h
  | 0, [], _ :: _, h => by simp at h
  | _ + 1, [], ys, _ => by simp [mergeF]
  | _ + 1, x :: xs, [], _ => by simp [mergeF]
  | n + 1, x :: xs, y :: ys, h => by
    rw [List.cons_merge_cons]
    show (if le x y = true then x :: mergeF le n xs (y :: ys) else y :: mergeF le n (x :: xs) ys) = _
    simp only [List.length_cons] at h
    rw [mergeF_eq n xs (y :: ys) (by simp only [List.length_cons]; omega), mergeF_eq n (x :: xs) ys (by simp only [List.length_cons]; omega)]
def sortF : Nat → List α → List α
  | 0, l => l
  | _ + 1, [] => []
  | _ + 1, [a] => [a]
  | n + 1, a :: b :: l => mergeF le (l.length + 2) (sortF n ((a :: b :: l).take ((l.length + 3) / 2))) (sortF n ((a :: b :: l).drop ((l.length + 3) / 2)))
theorem sortF_eq : ∀ (n : Nat) (l : List α), l.length ≤ n → sortF le n l = l.mergeSort le
  | 0, [], _ => by simp [sortF]
  | 0, _ :: _, h => by simp at h
  | _ + 1, [], _ => by simp [sortF]
  | _ + 1, [a], _ => by simp [sortF]
  | n + 1, a :: b :: l, h => by
    simp only [List.length_cons] at h
    have h1 : ((a :: b :: l).take ((l.length + 3) / 2)).length ≤ n := by rw [List.length_take]; simp only [List.length_cons]; omega
    have h2 : ((a :: b :: l).drop ((l.length + 3) / 2)).length ≤ n := by rw [List.length_drop]; simp only [List.length_cons]; omega
    show mergeF le (l.length + 2) _ _ = _
    rw [sortF_eq n _ h1, sortF_eq n _ h2, mergeF_eq le _ _ _ (by rw [List.length_mergeSort, List.length_mergeSort, List.length_take, List.length_drop]; simp only [List.length_cons]; omega)]
    conv => rhs; unfold List.mergeSort
    simp only [List.MergeSort.Internal.splitInTwo_fst, List.MergeSort.Internal.splitInTwo_snd, List.length_cons]
end
def sortK3 : D → Tree (List D)
  | .lst ds => match intsD ds with
    | some is => leaf ((sortI is).map D.int)
    | none => if okS ds = true then leaf (sortF leD ds.length ds) else fail
  | .tup ds => if okS ds = true then leaf (sortF leD ds.length ds) else fail
  | _ => fail
theorem sortK3_eq : sortK3 = sortK2 := by
  funext d
  cases d <;> simp only [sortK3, sortK2, sortF_eq leD _ _ (Nat.le_refl _)] <;> try rfl
def mSortedC (m : En → Tree D) : En → Tree (List D) := fun E => (m E).bind sortK3
theorem sl_sortedC {X : Cx} {e : Expr} {m : En → Tree D} {p pos : Pos} (hu : X.A.units + 65 < cLine) (hg : Gl X "sorted") (hm : X.mg "sorted" = none) (ha : SP X e m) (he : starEach (e :: []) X.env = (false, eval e X.env) :: starEach [] X.env := by rfl) : SL X (.Call (.Name "sorted" p) [e] [] pos) (mSortedC m) := by
  rw [show mSortedC m = mSortedB m from by unfold mSortedC mSortedB; rw [sortK3_eq]]
  exact sl_sortedB hu hg hm ha he
end R

set_option Elab.async false
set_option linter.all false
set_option maxRecDepth 100000
/-! min(xs), max(xs) of a list of ints -/
namespace R
open PySem PySem.Spec PyProof.Rows L2
open Tree (leaf fail)
def minI : List Int → Option Int
  | [] => none
  | n :: ns => some (ns.foldl (fun a b => if b < a then b else a) n)
def maxI : List Int → Option Int
  | [] => none
  | n :: ns => some (ns.foldl (fun a b => if b > a then b else a) n)
theorem minI_foldl : ∀ (ns : List Int) (n : Int), (ns.foldl (fun a b => if b < a then b else a) n = n ∨ ns.foldl (fun a b => if b < a then b else a) n ∈ ns) ∧ ns.foldl (fun a b => if b < a then b else a) n ≤ n ∧ ∀ y ∈ ns, ns.foldl (fun a b => if b < a then b else a) n ≤ y
  | [], n => ⟨.inl rfl, Int.le_refl _, fun _ h => nomatch h⟩
  | x :: ns, n => by
    obtain ⟨h1, h2, h3⟩ := minI_foldl ns (if x < n then x else n)
    rw [List.foldl_cons]
    refine ⟨?_, ?_, fun y hy => ?_⟩
    · rcases h1 with h | h
      · rw [h]
        by_cases c : x < n
        · rw [if_pos c]; exact .inr List.mem_cons_self
        · rw [if_neg c]; exact .inl rfl
      · exact .inr (List.mem_cons_of_mem _ h)
    · by_cases c : x < n
      · rw [if_pos c] at h2 ⊢; omega
      · rw [if_neg c] at h2 ⊢; omega
    · rcases List.mem_cons.mp hy with rfl | hy
      · by_cases c : y < n
        · rw [if_pos c] at h2 ⊢; omega
        · rw [if_neg c] at h2 ⊢; omega
      · exact h3 y hy
theorem maxI_foldl : ∀ (ns : List Int) (n : Int), (ns.foldl (fun a b => if b > a then b else a) n = n ∨ ns.foldl (fun a b => if b > a then b else a) n ∈ ns) ∧ n ≤ ns.foldl (fun a b => if b > a then b else a) n ∧ ∀ y ∈ ns, y ≤ ns.foldl (fun a b => if b > a then b else a) n
  | [], n => ⟨.inl rfl, Int.le_refl _, fun _ h => nomatch h⟩
  | x :: ns, n => by
    obtain ⟨h1, h2, h3⟩ := maxI_foldl ns (if x > n then x else n)
    rw [List.foldl_cons]
    refine ⟨?_, ?_, fun y hy => ?_⟩
    · rcases h1 with h | h
      · rw [h]
        by_cases c : x > n
        · rw [if_pos c]; exact .inr List.mem_cons_self
        · rw [if_neg c]; exact .inl rfl
      · exact .inr (List.mem_cons_of_mem _ h)
    · by_cases c : x > n
      · rw [if_pos c] at h2 ⊢; omega
      · rw [if_neg c] at h2 ⊢; omega
    · rcases List.mem_cons.mp hy with rfl | hy
      · by_cases c : y > n
        · rw [if_pos c] at h2 ⊢; omega
        · rw [if_neg c] at h2 ⊢; omega
      · exact h3 y hy
theorem minI_uniq {ns : List Int} {m k : Int} (e : minI ns = some k) (h1 : m ∈ ns) (h2 : ∀ y, y ∈ ns → m ≤ y) : m = k := by
  cases ns with
  | nil => cases e
  | cons n ns =>
    cases e
    obtain ⟨a, b, c⟩ := minI_foldl ns n
    have : m ≤ ns.foldl (fun a b => if b < a then b else a) n := by
      rcases a with a | a
      · rw [a]; exact h2 n List.mem_cons_self
      · exact h2 _ (List.mem_cons_of_mem _ a)
    rcases List.mem_cons.mp h1 with rfl | h
    · omega
    · have := c m h; omega
theorem maxI_uniq {ns : List Int} {m k : Int} (e : maxI ns = some k) (h1 : m ∈ ns) (h2 : ∀ y, y ∈ ns → y ≤ m) : m = k := by
  cases ns with
  | nil => cases e
  | cons n ns =>
    cases e
    obtain ⟨a, b, c⟩ := maxI_foldl ns n
    have : ns.foldl (fun a b => if b > a then b else a) n ≤ m := by
      rcases a with a | a
      · rw [a]; exact h2 n List.mem_cons_self
      · exact h2 _ (List.mem_cons_of_mem _ a)
    rcases List.mem_cons.mp h1 with rfl | h
    · omega
    · have := c m h; omega
theorem extI_pos {ns : List Int} {k : Int} (e : minI ns = some k ∨ maxI ns = some k) : 0 < ns.length := by
  cases ns with
  | nil => rcases e with e | e <;> cases e
  | cons n ns => simp
section
variable {K : PySem.W.Frag}
def fMinL : List D → Tree D
  | [.lst ds] => withO (intsD ds) fun ns => withO (minI ns) fun m => leaf (.int m)
  | _ => fail
def fMaxL : List D → Tree D
  | [.lst ds] => withO (intsD ds) fun ns => withO (maxI ns) fun m => leaf (.int m)
  | _ => fail
theorem f1_minL : Fn1 K (rMin K) fMinL := by
  intro F H vs ds Q g p q
  unfold fMinL at q
  split at q
  · obtain ⟨v, rfl, pk⟩ := pks1 p
    obtain ⟨a, xs, rfl, h1, r1⟩ := pk.lst g
    unfold withO at q
    split at q
    · rename_i ns hn
      simp only [] at q
      split at q
      · rename_i k hk
        have e := ints_of hn r1
        subst e
        exact ⟨a, ns, rfl, .of h1, extI_pos (.inl hk), fun m m1 m2 => by
          rw [minI_uniq hk m1 m2]
          exact q _ F H (Ext.refl g) (.int _)⟩
      · exact q.elim
    · exact q.elim
  · exact q.elim
theorem f1_maxL : Fn1 K (rMax K) fMaxL := by
  intro F H vs ds Q g p q
  unfold fMaxL at q
  split at q
  · obtain ⟨v, rfl, pk⟩ := pks1 p
    obtain ⟨a, xs, rfl, h1, r1⟩ := pk.lst g
    unfold withO at q
    split at q
    · rename_i ns hn
      simp only [] at q
      split at q
      · rename_i k hk
        have e := ints_of hn r1
        subst e
        exact ⟨a, ns, rfl, .of h1, extI_pos (.inr hk), fun m m1 m2 => by
          rw [maxI_uniq hk m1 m2]
          exact q _ F H (Ext.refl g) (.int _)⟩
      · exact q.elim
    · exact q.elim
  · exact q.elim
end
end R

set_option Elab.async false
set_option linter.all false
set_option maxRecDepth 100000
set_option maxHeartbeats 2000000
/-! mutable lists within lists: a mirror with a heap of one's own lists -/
namespace R
open PySem PySem.Spec PyProof.Rows L2
open Tree (leaf fail)
/-- a value: still data, or the n-th list of one's own -/
inductive MV where
  | d (x : D) | loc (n : Nat)
/-- a list of one's own; off: it stands still by now; an instance; dicts -/
inductive MO where
  | lst (xs : List MV) | off
  | ins (C : Addr) (fs : List (Str × MV))
  | dK (kvs : List (Key × MV)) | dT (kvs : List (List Key × MV))
abbrev MSt := List MO
abbrev MEn := List (Option MV)
def RelM (K : PySem.W.Frag) (F : Fz) (as : List Addr) (v : V) : MV → Prop
  | .d x => Rep K F v x
  | .loc n => ∃ a, as[n]? = some a ∧ v = .ref a
abbrev RelMs (K : PySem.W.Frag) (F : Fz) (as : List Addr) : List V → List MV → Prop := Paired (RelM K F as)
/-- tables of values -/
def RelKV {κ : Type} (K : PySem.W.Frag) (F : Fz) (as : List Addr) : List (κ × V) → List (κ × MV) → Prop := Paired fun p q => p.1 = q.1 ∧ RelM K F as p.2 q.2
/-- what may be changed -/
def isMu : HO → Bool
  | .lst _ => true
  | .ins _ _ _ => true
  | .dK _ => true
  | .dT _ => true
  | _ => false
def ObjM (K : PySem.W.Frag) (F : Fz) (as : List Addr) (H : Hp) (a : Addr) : MO → Prop
  | .off => True
  | .lst xs => F.P a = none ∧ ¬ F.T a ∧ ∃ vs, H a = some (.lst vs) ∧ RelMs K F as vs xs
  | .ins C fs => F.P a = none ∧ ¬ F.T a ∧ ∃ dx vs, H a = some (.ins C dx vs) ∧ RelKV K F as vs fs
  | .dK ks => F.P a = none ∧ ¬ F.T a ∧ ∃ vs, H a = some (.dK vs) ∧ RelKV K F as vs ks
  | .dT ks => F.P a = none ∧ ¬ F.T a ∧ ∃ vs, H a = some (.dT vs) ∧ RelKV K F as vs ks
structure HM (K : PySem.W.Frag) (F : Fz) (H : Hp) (as : List Addr) (S : MSt) : Prop where
  len : S.length = as.length
  nd : as.Nodup
  live : ∀ a ∈ as, ∃ o, H a = some o ∧ isMu o = true
  nT : ∀ a ∈ as, ¬ F.T a
  obj : ∀ (n : Nat) (o : MO) (a : Addr), S[n]? = some o → as[n]? = some a → ObjM K F as H a o
structure ExtM (as : List Addr) (F : Fz) (H : Hp) (as' : List Addr) (F' : Fz) (H' : Hp) : Prop where
  good : Good F' H'
  mono : Same F.P F'.P
  monoT : ∀ a, F.T a → F'.T a
  pre : ∃ bs, as' = as ++ bs
  keep : ∀ a o, H a = some o → ¬ F.T a → a ∉ as → (∀ ps, o ≠ .tbl ps) → H' a = some o
  freshA : ∀ a, a ∈ as' → a ∈ as ∨ NT H a
  freshF : ∀ a, (F'.P a ≠ none ∨ F'.T a) → F.P a ≠ none ∨ F.T a ∨ a ∈ as ∨ NT H a
structure RelME (K : PySem.W.Frag) (F : Fz) (as : List Addr) (σ : L2.St) (E : MEn) : Prop where
  len : σ.length = E.length
  val : ∀ (i : Nat) (m : MV), E[i]? = some (some m) → ∃ v, σ[i]? = some (some v) ∧ RelM K F as v m
section
variable {K : PySem.W.Frag} {F F' F1 F2 : Fz} {H H' H1 H2 : Hp} {as as' as1 as2 bs : List Addr} {S : MSt} {σ : L2.St} {E : MEn}
theorem ExtM.le (e : ExtM as F H as' F' H') : F.Le F' := ⟨e.mono, e.monoT⟩
theorem RelM.mono (l : F.Le F') {v : V} {m : MV} (h : RelM K F as v m) : RelM K F' (as ++ bs) v m := by
  cases m with
  | d x => exact Rep.mono l h
  | loc n =>
    obtain ⟨a, h1, h2⟩ := h
    exact ⟨a, by rw [List.getElem?_append_left (List.getElem?_eq_some_iff.mp h1).1]; exact h1, h2⟩
theorem RelM.ext (e : ExtM as F H as' F' H') {v : V} {m : MV} (h : RelM K F as v m) : RelM K F' as' v m := by
  obtain ⟨bs, rfl⟩ := e.pre
  exact h.mono e.le
theorem RelMs.mono (l : F.Le F') : ∀ {vs : List V} {ms : List MV}, RelMs K F as vs ms → RelMs K F' (as ++ bs) vs ms
  | _, _, .nil => .nil
  | _, _, .cons h r => .cons (h.mono l) (RelMs.mono l r)
theorem RelMs.ext (e : ExtM as F H as' F' H') {vs : List V} {ms : List MV} (h : RelMs K F as vs ms) : RelMs K F' as' vs ms := by
  obtain ⟨bs, rfl⟩ := e.pre
  exact h.mono e.le
theorem RelKV.mono {κ : Type} (l : F.Le F') : ∀ {vs : List (κ × V)} {ms : List (κ × MV)}, RelKV K F as vs ms → RelKV K F' (as ++ bs) vs ms
  | _, _, .nil => .nil
  | _, _, .cons h r => .cons ⟨h.1, h.2.mono l⟩ (RelKV.mono l r)
theorem RelKV.ext {κ : Type} (e : ExtM as F H as' F' H') {vs : List (κ × V)} {ms : List (κ × MV)} (h : RelKV K F as vs ms) : RelKV K F' as' vs ms := by
  obtain ⟨bs, rfl⟩ := e.pre
  exact h.mono e.le
theorem mu_tbl {o : HO} (m : isMu o = true) (ps : Array Value) : o ≠ .tbl ps := fun z => by subst z; cases m
theorem RelME.ext (r : RelME K F as σ E) (e : ExtM as F H as' F' H') : RelME K F' as' σ E := ⟨r.len, fun i m h => by
  obtain ⟨v, h1, h2⟩ := r.val i m h
  exact ⟨v, h1, h2.ext e⟩⟩
theorem ExtM.refl (g : Good F H) : ExtM as F H as F H := ⟨g, Same.refl _, fun _ h => h, ⟨[], (by simp)⟩, fun _ _ h _ _ _ => h, fun _ h => .inl h, fun _ h => h.elim .inl fun z => .inr (.inl z)⟩
theorem pot_lst (g : Good F H) {a : Addr} (t : F.T a) : ∃ p q : Int, H a = some (.lst [.int p, .int q]) := by
  obtain ⟨_, p, q, e, _⟩ := g.pot a t
  exact ⟨p, q, e⟩
theorem ExtM.backNT (e : ExtM as F H as' F' H') {a : Addr} (h : NT H' a) (n : a ∉ as) : NT H a := fun o z => by
  by_cases q : ∃ ps, o = .tbl ps
  · exact q
  · by_cases t : F.T a
    · obtain ⟨p, r, w⟩ := pot_lst e.good (e.monoT a t)
      obtain ⟨ps, y⟩ := h _ w
      cases y
    · exact absurd (h o (e.keep a o z t n fun ps hq => q ⟨ps, hq⟩)) q
theorem nt_live {a : Addr} {o : HO} (h : NT H a) (e : H a = some o) (m : isMu o = true := by rfl) : False := by
  obtain ⟨ps, z⟩ := h _ e
  exact mu_tbl m ps z
theorem ExtM.trans (x : ExtM as F H as1 F1 H1) (y : ExtM as1 F1 H1 as2 F2 H2) : ExtM as F H as2 F2 H2 := by
  refine ⟨y.good, x.mono.trans y.mono, fun a h => y.monoT a (x.monoT a h), ?_, fun a o h nt na ntb => ?_, fun a h => ?_, fun a h => ?_⟩
  · obtain ⟨b1, e1⟩ := x.pre
    obtain ⟨b2, e2⟩ := y.pre
    exact ⟨b1 ++ b2, by rw [e2, e1, List.append_assoc]⟩
  · have h1 := x.keep a o h nt na ntb
    refine y.keep a o h1 (fun t1 => ?_) (fun a1 => ?_) ntb
    · rcases x.freshF a (.inr t1) with z | z | z | z
      · cases q : F.P a with
        | none => exact z q
        | some u =>
          have := x.mono a u q
          rw [(x.good.pot a t1).1] at this; cases this
      · exact nt z
      · exact na z
      · obtain ⟨ps, e⟩ := z o h; exact ntb ps e
    · rcases x.freshA a a1 with z | z
      · exact na z
      · obtain ⟨ps, e⟩ := z o h; exact ntb ps e
  · rcases y.freshA a h with z | z
    · exact x.freshA a z
    · by_cases na : a ∈ as
      · exact .inl na
      · exact .inr (x.backNT z na)
  · rcases y.freshF a h with z | z | z | z
    · exact x.freshF a (.inl z)
    · exact x.freshF a (.inr z)
    · rcases x.freshA a z with w | w
      · exact .inr (.inr (.inl w))
      · exact .inr (.inr (.inr w))
    · by_cases na : a ∈ as
      · exact .inr (.inr (.inl na))
      · exact .inr (.inr (.inr (x.backNT z na)))
/-- a step of the still world -/
theorem Ext.toM (e : Ext F H F' H') : ExtM as F H as F' H' := ⟨e.good, e.mono, e.monoT, ⟨[], (by simp)⟩, fun a o h nt _ ntb => e.keep a o h nt ntb, fun _ h => .inl h, fun a h => by
  rcases e.fresh a h with z | z | z
  · exact .inl z
  · exact .inr (.inl z)
  · exact .inr (.inr (.inr z))⟩
theorem ext_nT {a : Addr} (e : Ext F H F' H') (n : ¬ F.T a) {o : HO} (l : H a = some o) (m : isMu o = true := by rfl) : ¬ F'.T a := fun t => by
  rcases e.fresh a (.inr t) with z | z | z
  · cases q : F.P a with
    | none => exact z q
    | some u =>
      have := e.mono a u q
      rw [(e.good.pot a t).1] at this; cases this
  · exact n z
  · exact nt_live z l m
/-- nobody's still thing -/
theorem ext_nP {a : Addr} (e : Ext F H F' H') (h1 : F.P a = none) (h2 : ¬ F.T a) {o : HO} (l : H a = some o) (m : isMu o = true := by rfl) : F'.P a = none := by
  cases q : F'.P a with
  | none => rfl
  | some u =>
    rcases e.fresh a (.inl (by rw [q]; intro z; cases z)) with z | z | z
    · exact absurd h1 z
    · exact absurd z h2
    · exact (nt_live z l m).elim
theorem HM.ext (h : HM K F H as S) (e : Ext F H F' H') : HM K F' H' as S := by
  refine ⟨h.len, h.nd, fun a ha => ?_, fun a ha => ?_, fun n o a hs ha => ?_⟩
  · obtain ⟨o, hx, m⟩ := h.live a ha
    exact ⟨o, e.keep a _ hx (h.nT a ha) (mu_tbl m), m⟩
  · obtain ⟨o, hx, m⟩ := h.live a ha
    exact ext_nT e (h.nT a ha) hx m
  · have hb := h.obj n o a hs ha
    cases o with
    | off => exact True.intro
    | lst xs =>
      obtain ⟨h1, h2, vs, h3, h4⟩ := hb
      exact ⟨ext_nP e h1 h2 h3, ext_nT e h2 h3, vs, e.keep a _ h3 h2 (fun ps z => (by cases z)), by simpa using (RelMs.mono (bs := []) e.le h4)⟩
    | ins C xs =>
      obtain ⟨h1, h2, dx, vs, h3, h4⟩ := hb
      exact ⟨ext_nP e h1 h2 h3, ext_nT e h2 h3, dx, vs, e.keep a _ h3 h2 (fun ps z => (by cases z)), by simpa using (RelKV.mono (bs := []) e.le h4)⟩
    | dK xs =>
      obtain ⟨h1, h2, vs, h3, h4⟩ := hb
      exact ⟨ext_nP e h1 h2 h3, ext_nT e h2 h3, vs, e.keep a _ h3 h2 (fun ps z => (by cases z)), by simpa using (RelKV.mono (bs := []) e.le h4)⟩
    | dT xs =>
      obtain ⟨h1, h2, vs, h3, h4⟩ := hb
      exact ⟨ext_nP e h1 h2 h3, ext_nT e h2 h3, vs, e.keep a _ h3 h2 (fun ps z => (by cases z)), by simpa using (RelKV.mono (bs := []) e.le h4)⟩
end
/-! ### the still view -/
/-- no list within -/
def noL : Nat → D → Bool
  | 0, _ => false
  | n + 1, .tup xs => xs.all (noL n)
  | _ + 1, .lst _ => false
  | _ + 1, .scr _ => false
  | n + 1, .clo _ _ => false
  | n + 1, .inst _ _ => false
  | _ + 1, _ => true
/-- a value as still data -/
def optAll (f : MV → Option D) : List MV → Option (List D)
  | [] => some []
  | x :: xs => match f x, optAll f xs with
    | some d, some ds => some (d :: ds)
    | _, _ => none
def deepD (S : MSt) : Nat → MV → Option D
  | 0, .d x => some x
  | 0, .loc _ => none
  | _ + 1, .d x => some x
  | n + 1, .loc k => match S[k]? with
    | some (.lst xs) => (optAll (deepD S n) xs).map .lst
    | _ => none
/-- where one's own lists are -/
def ownA (S : MSt) (as : List Addr) : List Addr := (S.zip as).filterMap fun z => match z.1 with
  | .lst _ => some z.2
  | _ => none
theorem ownA_mem {S : MSt} {as : List Addr} {a : Addr} : a ∈ ownA S as ↔ ∃ (n : Nat) (xs : List MV), S[n]? = some (.lst xs) ∧ as[n]? = some a := by
  unfold ownA
  rw [List.mem_filterMap]
  constructor
  · rintro ⟨⟨o, b⟩, hm, e⟩
    obtain ⟨i, hi, ez⟩ := List.mem_iff_getElem.mp hm
    rw [List.length_zip] at hi
    rw [List.getElem_zip] at ez
    cases o with
    | off => cases e
    | ins _ _ => cases e
    | dK _ => cases e
    | dT _ => cases e
    | lst xs =>
      cases e
      refine ⟨i, xs, ?_, ?_⟩
      · rw [List.getElem?_eq_getElem (by omega)]; exact congrArg some (congrArg Prod.fst ez)
      · rw [List.getElem?_eq_getElem (by omega)]; exact congrArg some (congrArg Prod.snd ez)
  · rintro ⟨n, xs, h1, h2⟩
    refine ⟨(.lst xs, a), List.mem_iff_getElem?.mpr ⟨n, ?_⟩, rfl⟩
    rw [List.getElem?_zip_eq_some]
    exact ⟨h1, h2⟩
/-- one's own lists made still for a while -/
def frzF (S : MSt) (as : List Addr) (H : Hp) (F : Fz) : Fz := plusF (fun b => if b ∈ ownA S as then H b else none) F
def rollF (S : MSt) (as : List Addr) (F : Fz) : Fz := ⟨fun b => if b ∈ ownA S as then none else F.P b, F.T⟩
def snap (E : MEn) (S : MSt) : En := E.map fun o => o.bind fun m => (deepD S 12 m).map fun d => ⟨false, d⟩
section
variable {K : PySem.W.Frag} {F F2 : Fz} {H H2 : Hp} {as : List Addr} {S : MSt} {σ : L2.St} {E : MEn}
theorem HM.own (h : HM K F H as S) {a : Addr} (m : a ∈ ownA S as) : F.P a = none ∧ ¬ F.T a ∧ ∃ vs, H a = some (.lst vs) := by
  obtain ⟨n, xs, h1, h2⟩ := ownA_mem.mp m
  obtain ⟨k1, k2, vs, k3, _⟩ := h.obj n _ a h1 h2
  exact ⟨k1, k2, vs, k3⟩
theorem frz_good (g : Good F H) (h : HM K F H as S) : Good (frzF S as H F) H ∧ F.Le (frzF S as H F) := plus_good g fun b o hb => by
  by_cases m : b ∈ ownA S as
  · have hb : (if b ∈ ownA S as then H b else none) = some o := hb
    rw [if_pos m] at hb
    obtain ⟨k1, k2, vs, k3⟩ := h.own m
    rw [k3] at hb
    cases hb
    exact ⟨k3, k1, k2, fun ps z => (by cases z), fun ob z => (by cases z)⟩
  · have hb : (if b ∈ ownA S as then H b else none) = some o := hb
    rw [if_neg m] at hb; cases hb
theorem frz_at (h : HM K F H as S) {a : Addr} {vs : List V} (m : a ∈ ownA S as) (e : H a = some (.lst vs)) : (frzF S as H F).P a = some (.lst vs) := plus_some (by
  show (if a ∈ ownA S as then H a else none) = _
  rw [if_pos m]; exact e)
theorem deep_reps (ih : ∀ (m : MV) (v : V) (d : D), RelM K F as v m → deepD S n m = some d → Rep K F2 v d) : ∀ (ms : List MV) (vs : List V) (ds : List D), RelMs K F as vs ms → optAll (deepD S n) ms = some ds → Reps K F2 vs ds
  | _, _, ds, .nil, e => by cases e; exact .nil
  | m :: ms, _, ds, .cons r rs, e => by
    unfold optAll at e
    cases h1 : deepD S n m with
    | none => rw [h1] at e; cases e
    | some d =>
      cases h2 : optAll (deepD S n) ms with
      | none => rw [h1, h2] at e; cases e
      | some es =>
        rw [h1, h2] at e
        cases e
        exact .cons (ih m _ d r h1) (deep_reps ih ms _ es rs h2)
theorem deep_rep (g : Good F H) (h : HM K F H as S) : ∀ (n : Nat) (m : MV) (v : V) (d : D), RelM K F as v m → deepD S n m = some d → Rep K (frzF S as H F) v d
  | 0, .d x, v, d, r, e => by cases e; exact Rep.mono (frz_good g h).2 r
  | 0, .loc _, _, _, _, e => by cases e
  | _ + 1, .d x, v, d, r, e => by cases e; exact Rep.mono (frz_good g h).2 r
  | n + 1, .loc k, v, d, r, e => by
    unfold deepD at e
    obtain ⟨a, ha, rfl⟩ := r
    cases hs : S[k]? with
    | none => rw [hs] at e; cases e
    | some o =>
      rw [hs] at e
      cases o with
      | off => cases e
      | ins _ _ => cases e
      | dK _ => cases e
      | dT _ => cases e
      | lst xs =>
        obtain ⟨ds, hd, rfl⟩ := Option.map_eq_some_iff.mp (show (optAll (deepD S n) xs).map .lst = some d from e)
        obtain ⟨k1, k2, vs, k3, k4⟩ := h.obj k _ a hs ha
        exact .lst (frz_at h (ownA_mem.mpr ⟨k, xs, hs, ha⟩) k3) (deep_reps (deep_rep g h n) xs vs ds k4 hd)
theorem snap_rel (g : Good F H) (h : HM K F H as S) (r : RelME K F as σ E) (B : Addr → Prop) : RelE K B (frzF S as H F) H σ (snap E S) := by
  have at_ : ∀ {i : Nat} {s : Slot}, (snap E S)[i]? = some (some s) → ∃ m d, E[i]? = some (some m) ∧ deepD S 12 m = some d ∧ s = ⟨false, d⟩ := fun {i s} hi => by
    unfold snap at hi
    rw [List.getElem?_map] at hi
    obtain ⟨o, ho, e⟩ := Option.map_eq_some_iff.mp hi
    obtain ⟨m, hm, e2⟩ := Option.bind_eq_some_iff.mp e
    obtain ⟨d, hd, e3⟩ := Option.map_eq_some_iff.mp e2
    exact ⟨m, d, by rw [ho, hm], hd, e3.symm⟩
  refine ⟨by unfold snap; rw [List.length_map]; exact r.len, fun i d hi => ?_, fun i d hi => ?_, fun i j d e a _ hi => ?_⟩
  · obtain ⟨m, d2, h1, h2, h3⟩ := at_ hi
    cases h3
    obtain ⟨v, k1, k2⟩ := r.val i m h1
    exact ⟨v, k1, deep_rep g h 12 m v d k2 h2⟩
  · obtain ⟨m, d2, _, _, h3⟩ := at_ hi
    cases h3
  · obtain ⟨m, d2, _, _, h3⟩ := at_ hi
    cases h3
theorem roll_le (h : HM K F H as S) (e : Ext (frzF S as H F) H F2 H2) (g : Good F H) : F.Le (rollF S as F2) := ⟨fun a o q => by
  have m : a ∉ ownA S as := fun m => by rw [(h.own m).1] at q; cases q
  show (if a ∈ ownA S as then none else F2.P a) = some o
  rw [if_neg m]
  exact e.mono a o ((frz_good g h).2.p a o q), fun a t => e.monoT a t⟩
theorem roll_good (h : HM K F H as S) (e : Ext (frzF S as H F) H F2 H2) : Good (rollF S as F2) H2 := by
  have sub : ∀ {a : Addr} {o : HO}, (rollF S as F2).P a = some o → F2.P a = some o := fun {a o} q => by
    have q : (if a ∈ ownA S as then none else F2.P a) = some o := q
    by_cases m : a ∈ ownA S as
    · rw [if_pos m] at q; cases q
    · rw [if_neg m] at q; exact q
  refine ⟨fun a o q => e.good.sub a o (sub q), fun a t => ⟨?_, (e.good.pot a t).2⟩, fun a ps q => e.good.nt a ps (sub q), e.good.tab, fun f o q => e.good.cod f o (sub q)⟩
  cases q : (rollF S as F2).P a with
  | none => rfl
  | some o => have := sub q; rw [(e.good.pot a t).1] at this; cases this
theorem roll_own (h : HM K F H as S) (e : Ext (frzF S as H F) H F2 H2) {a : Addr} (m : a ∈ ownA S as) : ∃ vs, H a = some (.lst vs) ∧ H2 a = some (.lst vs) ∧ F2.P a = some (.lst vs) ∧ ¬ F2.T a := by
  obtain ⟨k1, k2, vs, k3⟩ := h.own m
  have p2 := e.mono a _ (frz_at h m k3)
  refine ⟨vs, k3, e.good.sub a _ p2, p2, fun t => ?_⟩
  have := (e.good.pot a t).1
  rw [p2] at this; cases this
theorem roll_out (g : Good F H) (e : Ext (frzF S as H F) H F2 H2) {a : Addr} {o : HO} (m : a ∉ ownA S as) (h1 : F.P a = none) (h2 : ¬ F.T a) (l : H a = some o) (mu : isMu o = true) : (rollF S as F2).P a = none ∧ ¬ F2.T a ∧ H2 a = some o := by
  have z1 : (frzF S as H F).P a = none := by
    rw [frzF, plus_none (by show (if a ∈ ownA S as then H a else none) = none; rw [if_neg m])]
    exact h1
  have z2 : ¬ (frzF S as H F).T a := h2
  refine ⟨?_, ext_nT e z2 l mu, e.keep a _ l z2 (mu_tbl mu)⟩
  show (if a ∈ ownA S as then none else F2.P a) = none
  rw [if_neg m]
  exact ext_nP e z1 z2 l mu
theorem own_not (h : HM K F H as S) {a : Addr} {o : HO} (l : H a = some o) (ne : ∀ xs, o ≠ .lst xs) : a ∉ ownA S as := fun m => by
  obtain ⟨_, _, vs, hv⟩ := h.own m
  rw [l] at hv; cases hv; exact ne _ rfl
/-- back from a step that saw one's own lists as still ones -/
theorem rollM (g : Good F H) (h : HM K F H as S) (e : Ext (frzF S as H F) H F2 H2) : ExtM as F H as (rollF S as F2) H2 ∧ HM K (rollF S as F2) H2 as S := by
  have le := roll_le h e g
  refine ⟨⟨roll_good h e, le.p, le.t, ⟨[], (by simp)⟩, fun a o q nt _ ntb => e.keep a o q nt ntb, fun _ m => .inl m, fun a q => ?_⟩, ⟨h.len, h.nd, fun a ha => ?_, fun a ha t => ?_, fun n o a hs ha => ?_⟩⟩
  · have q2 : F2.P a ≠ none ∨ F2.T a := q.elim (fun z => by
      have z : (if a ∈ ownA S as then none else F2.P a) ≠ none := z
      by_cases m : a ∈ ownA S as
      · rw [if_pos m] at z; exact absurd rfl z
      · rw [if_neg m] at z; exact .inl z) .inr
    by_cases m : a ∈ ownA S as
    · obtain ⟨n, xs, h1, h2⟩ := ownA_mem.mp m
      exact .inr (.inr (.inl (List.mem_of_getElem? h2)))
    · rcases e.fresh a q2 with z | z | z
      · refine .inl fun w => z ?_
        show (frzF S as H F).P a = none
        rw [frzF, plus_none (by show (if a ∈ ownA S as then H a else none) = none; rw [if_neg m])]
        exact w
      · exact .inr (.inl z)
      · exact .inr (.inr (.inr z))
  · obtain ⟨o, hx, mu⟩ := h.live a ha
    by_cases m : a ∈ ownA S as
    · obtain ⟨vs, _, k2, _⟩ := roll_own h e m
      exact ⟨_, k2, rfl⟩
    · exact ⟨o, e.keep a _ hx (show ¬ (frzF S as H F).T a from h.nT a ha) (mu_tbl mu), mu⟩
  · obtain ⟨o, hx, mu⟩ := h.live a ha
    exact ext_nT e (show ¬ (frzF S as H F).T a from h.nT a ha) hx mu t
  · have hb := h.obj n o a hs ha
    cases o with
    | off => exact True.intro
    | lst xs =>
      have m := ownA_mem.mpr ⟨n, xs, hs, ha⟩
      obtain ⟨h1, h2, vs, h3, h4⟩ := hb
      obtain ⟨vs2, k1, k2, k3, k4⟩ := roll_own h e m
      rw [h3] at k1
      cases k1
      refine ⟨by show (if a ∈ ownA S as then none else F2.P a) = none; rw [if_pos m], k4, vs, k2, by simpa using (RelMs.mono (bs := []) le h4)⟩
    | ins C xs =>
      obtain ⟨h1, h2, dx, vs, h3, h4⟩ := hb
      obtain ⟨y1, y2, y3⟩ := roll_out g e (own_not h h3 fun xs z => by cases z) h1 h2 h3 rfl
      exact ⟨y1, y2, dx, vs, y3, by simpa using (RelKV.mono (bs := []) le h4)⟩
    | dK xs =>
      obtain ⟨h1, h2, vs, h3, h4⟩ := hb
      obtain ⟨y1, y2, y3⟩ := roll_out g e (own_not h h3 fun xs z => by cases z) h1 h2 h3 rfl
      exact ⟨y1, y2, vs, y3, by simpa using (RelKV.mono (bs := []) le h4)⟩
    | dT xs =>
      obtain ⟨h1, h2, vs, h3, h4⟩ := hb
      obtain ⟨y1, y2, y3⟩ := roll_out g e (own_not h h3 fun xs z => by cases z) h1 h2 h3 rfl
      exact ⟨y1, y2, vs, y3, by simpa using (RelKV.mono (bs := []) le h4)⟩
theorem roll_reps (ih : ∀ (d : D) (v : V), noL n d = true → Rep K F v d → Rep K F2 v d) : ∀ (ds : List D) (vs : List V), ds.all (noL n) = true → Reps K F vs ds → Reps K F2 vs ds
  | _, _, _, .nil => .nil
  | d :: ds, _, h, .cons r rs => by
    rw [List.all_cons, Bool.and_eq_true] at h
    exact .cons (ih d _ h.1 r) (roll_reps ih ds _ h.2 rs)
theorem roll_rep (h : HM K F H as S) (e : Ext (frzF S as H F) H F2 H2) : ∀ (n : Nat) (d : D) (v : V), noL n d = true → Rep K F2 v d → Rep K (rollF S as F2) v d
  | 0, _, _, q, _ => by cases q
  | n + 1, d, v, q, r => by
    have keep : ∀ {b : Addr} {o : HO}, F2.P b = some o → (∀ xs, o ≠ .lst xs) → (rollF S as F2).P b = some o := fun {b o} p ne => by
      show (if b ∈ ownA S as then none else F2.P b) = some o
      by_cases m : b ∈ ownA S as
      · obtain ⟨vs, _, _, k, _⟩ := roll_own h e m
        rw [k] at p; exact absurd (Option.some.inj p).symm (ne vs)
      · rw [if_neg m]; exact p
    cases r with
    | non => exact .non
    | bl b => exact .bl b
    | int i => exact .int i
    | str x => exact .str x
    | tup hs rs =>
      refine .tup ?_ (roll_reps (roll_rep h e n) _ _ q rs)
      rcases hs with hs | hs
      · exact .inl (keep hs fun xs z => by cases z)
      · exact .inr hs
    | lst _ _ => cases q
    | pot hp => exact .pot hp
    | ty _ => exact .ty _
    | scr _ => cases q
    | dct hs => exact .dct (keep hs fun xs z => by cases z)
    | fn hs => exact .fn hs
    | clo _ _ _ _ _ _ _ => cases q
    | inst _ _ _ => cases q
    | inst0 _ => cases q
end
end R

set_option Elab.async false
set_option linter.all false
set_option maxRecDepth 100000
set_option maxHeartbeats 2000000
/-! the mutable mirror: expressions -/
namespace R
open PySem PySem.Spec PyProof.Rows L2
open Tree (leaf fail)
abbrev MT (α : Type) := MEn → MSt → Tree (α × MSt)
def tM (K : PySem.W.Frag) (m : MT MV) : TE := fun σ H Q => ∃ as F E S, Good F H ∧ HM K F H as S ∧ RelME K F as σ E ∧ (m E S).all fun r => ∀ v as' F' H', ExtM as F H as' F' H' → HM K F' H' as' r.2 → RelM K F' as' v r.1 → Q v H'
def tMB (K : PySem.W.Frag) (m : MT Bool) : TT := fun σ H Q => ∃ as F E S, Good F H ∧ HM K F H as S ∧ RelME K F as σ E ∧ (m E S).all fun r => ∀ as' F' H', ExtM as F H as' F' H' → HM K F' H' as' r.2 → Q r.1 H'
def tMA (K : PySem.W.Frag) (m : MT (List MV)) : TA := fun σ H Q => ∃ as F E S, Good F H ∧ HM K F H as S ∧ RelME K F as σ E ∧ (m E S).all fun r => ∀ vs as' F' H', ExtM as F H as' F' H' → HM K F' H' as' r.2 → RelMs K F' as' vs r.1 → Q vs H'
structure SM (X : Cx) (e : Expr) (m : MT MV) : Prop where
  pe : PE X e (tM X.K m)
structure SMB (X : Cx) (e : Expr) (m : MT Bool) : Prop where
  pt : PT X e (tMB X.K m)
structure SMA (X : Cx) (es : List Expr) (m : MT (List MV)) : Prop where
  pa : PA X es (tMA X.K m)
/-- the slots that hold still data -/
def view0 (E : MEn) : En := E.map fun o => match o with
  | some (.d x) => some ⟨false, x⟩
  | _ => none
def orT {α : Type} (t u : Tree α) : Tree α := match t with
  | .fail => u
  | t => t
theorem orT_all {α : Type} {t u : Tree α} {P : α → Prop} (h : (orT t u).all P) : t.all P ∨ u.all P := by
  cases t with
  | fail => exact .inr h
  | leaf a => exact .inl h
  | draw n k => exact .inl h
section
variable {K : PySem.W.Frag} {F F' F2 : Fz} {H H' H2 : Hp} {as as' : List Addr} {S : MSt} {σ : L2.St} {E : MEn}
theorem view0_rel (r : RelME K F as σ E) (B : Addr → Prop) : RelE K B F H σ (view0 E) := by
  have at_ : ∀ {i : Nat} {s : Slot}, (view0 E)[i]? = some (some s) → ∃ d, E[i]? = some (some (.d d)) ∧ s = ⟨false, d⟩ := fun {i s} hi => by
    unfold view0 at hi
    rw [List.getElem?_map] at hi
    obtain ⟨o, ho, e⟩ := Option.map_eq_some_iff.mp hi
    split at e
    · rename_i x; cases e; exact ⟨x, ho, rfl⟩
    · cases e
  refine ⟨by unfold view0; rw [List.length_map]; exact r.len, fun i d hi => ?_, fun i d hi => ?_, fun i j d e a _ hi => ?_⟩
  · obtain ⟨d2, h1, h2⟩ := at_ hi
    cases h2
    obtain ⟨v, k1, k2⟩ := r.val i _ h1
    exact ⟨v, k1, k2⟩
  · obtain ⟨d2, _, h3⟩ := at_ hi
    cases h3
  · obtain ⟨d2, _, h3⟩ := at_ hi
    cases h3
/-- what the still world's step gives, seen from here -/
def meR (m : En → Tree D) : MT MV := fun E S => orT ((m (view0 E)).bind fun d => leaf (.d d, S)) ((m (snap E S)).bind fun d => if noL 12 d = true then leaf (.d d, S) else fail)
def mbR (m : En → Tree Bool) : MT Bool := fun E S => orT ((m (view0 E)).bind fun b => leaf (b, S)) ((m (snap E S)).bind fun b => leaf (b, S))
variable {X : Cx} {e : Expr}
theorem sm_R {m : En → Tree D} (h : SE X e m) : SM X e (meR m) := ⟨PE.weak h.pe fun σ H Q ⟨as, F, E, S, g, hm, r, q⟩ => by
  rcases orT_all q with q | q
  · exact ⟨fun _ => True, F, view0 E, g, view0_rel r _, Tree.all_mono (fun d k v F2 H2 e2 rv => k v as F2 H2 e2.toM (hm.ext e2) rv) (Tree.all_bind.mp q)⟩
  · refine ⟨fun _ => True, frzF S as H F, snap E S, (frz_good g hm).1, snap_rel g hm r _, Tree.all_mono (fun d k v F2 H2 e2 rv => ?_) (Tree.all_bind.mp q)⟩
    by_cases hd : noL 12 d = true
    · have k : (if noL 12 d = true then leaf (MV.d d, S) else fail : Tree (MV × MSt)).all _ := k
      rw [if_pos hd] at k
      obtain ⟨x1, x2⟩ := rollM g hm e2
      exact (show ∀ v as' F' H', ExtM as F H as' F' H' → HM X.K F' H' as' S → RelM X.K F' as' v (.d d) → Q v H' from k) v as _ H2 x1 x2 (roll_rep hm e2 12 d v hd rv)
    · have k : (if noL 12 d = true then leaf (MV.d d, S) else fail : Tree (MV × MSt)).all _ := k
      rw [if_neg hd] at k; exact k.elim⟩
theorem smb_R {m : En → Tree Bool} (h : ST X e m) : SMB X e (mbR m) := ⟨PT.weak h.pt fun σ H Q ⟨as, F, E, S, g, hm, r, q⟩ => by
  rcases orT_all q with q | q
  · exact ⟨fun _ => True, F, view0 E, g, view0_rel r _, Tree.all_mono (fun b k F2 H2 e2 => (show ∀ as' F' H', ExtM as F H as' F' H' → HM X.K F' H' as' S → Q b H' from k) as F2 H2 e2.toM (hm.ext e2)) (Tree.all_bind.mp q)⟩
  · refine ⟨fun _ => True, frzF S as H F, snap E S, (frz_good g hm).1, snap_rel g hm r _, Tree.all_mono (fun b k F2 H2 e2 => ?_) (Tree.all_bind.mp q)⟩
    obtain ⟨x1, x2⟩ := rollM g hm e2
    exact (show ∀ as' F' H', ExtM as F H as' F' H' → HM X.K F' H' as' S → Q b H' from k) as _ H2 x1 x2⟩
/-- one thing of one's own more -/
theorem newLocG {a : Addr} {o : MO} (x : ExtM as F H as' F' H') (h : HM K F' H' as' S) (hl : ∃ ho, H' a = some ho ∧ isMu ho = true) (nt : ¬ F'.T a) (n0 : NT H a) (na : a ∉ as') (ob : ObjM K F' (as' ++ [a]) H' a o) :
    ExtM as F H (as' ++ [a]) F' H' ∧ HM K F' H' (as' ++ [a]) (S ++ [o]) ∧ RelM K F' (as' ++ [a]) (.ref a) (.loc S.length) := by
  have le : F'.Le F' := Fz.Le.refl F'
  refine ⟨⟨x.good, x.mono, x.monoT, ?_, x.keep, fun b hb => ?_, x.freshF⟩, ⟨by simp [h.len], ?_, fun b hb => ?_, fun b hb => ?_, fun n o b hs hb => ?_⟩, a, by rw [h.len]; simp, rfl⟩
  · obtain ⟨bs, e⟩ := x.pre
    exact ⟨bs ++ [a], by rw [e, List.append_assoc]⟩
  · rcases List.mem_append.mp hb with z | z
    · exact x.freshA b z
    · rw [List.mem_singleton.mp z]; exact .inr n0
  · rw [List.nodup_append]
    exact ⟨h.nd, by simp, fun b hb c hc e => na (by rw [List.mem_singleton.mp hc] at e; exact e ▸ hb)⟩
  · rcases List.mem_append.mp hb with z | z
    · exact h.live b z
    · rw [List.mem_singleton.mp z]; exact hl
  · rcases List.mem_append.mp hb with z | z
    · exact h.nT b z
    · rw [List.mem_singleton.mp z]; exact nt
  · by_cases hn : n < S.length
    · rw [List.getElem?_append_left hn] at hs
      rw [List.getElem?_append_left (by rw [← h.len]; exact hn)] at hb
      have k := h.obj n o b hs hb
      cases o with
      | off => exact True.intro
      | lst ys =>
        obtain ⟨k1, k2, ws, k3, k4⟩ := k
        exact ⟨k1, k2, ws, k3, k4.mono le⟩
      | ins C ys =>
        obtain ⟨k1, k2, dx, ws, k3, k4⟩ := k
        exact ⟨k1, k2, dx, ws, k3, k4.mono le⟩
      | dK ys =>
        obtain ⟨k1, k2, ws, k3, k4⟩ := k
        exact ⟨k1, k2, ws, k3, k4.mono le⟩
      | dT ys =>
        obtain ⟨k1, k2, ws, k3, k4⟩ := k
        exact ⟨k1, k2, ws, k3, k4.mono le⟩
    · have e : n = S.length := by
        have := (List.getElem?_eq_some_iff.mp hs).1
        rw [List.length_append, List.length_singleton] at this
        omega
      subst e
      simp at hs
      rw [h.len] at hb
      simp at hb
      subst hs hb
      exact ob
/-- a list of one's own more -/
theorem newLoc {a : Addr} {vs : List V} {xs : List MV} (x : ExtM as F H as' F' H') (h : HM K F' H' as' S) (ha : H' a = some (.lst vs)) (np : F'.P a = none) (nt : ¬ F'.T a) (n0 : NT H a) (na : a ∉ as') (rs : RelMs K F' as' vs xs) :
    ExtM as F H (as' ++ [a]) F' H' ∧ HM K F' H' (as' ++ [a]) (S ++ [.lst xs]) ∧ RelM K F' (as' ++ [a]) (.ref a) (.loc S.length) :=
  newLocG x h ⟨_, ha, rfl⟩ nt n0 na ⟨np, nt, vs, ha, rs.mono (Fz.Le.refl F')⟩
theorem not_in (h : HM K F H as S) {a : Addr} (n : NT H a) : a ∉ as := fun m => by
  obtain ⟨o, hx, mu⟩ := h.live a m
  exact nt_live n hx mu
theorem relMs_d : ∀ {vs : List V} {ds : List D}, Reps K F vs ds → RelMs K F as vs (ds.map .d)
  | _, _, .nil => .nil
  | _, _, .cons r rs => .cons r (relMs_d rs)
/-- a new list, its items still -/
def meL (m : En → Tree (List D)) : MT MV := fun E S => orT ((m (view0 E)).bind fun ds => leaf (.loc S.length, S ++ [.lst (ds.map .d)])) ((m (snap E S)).bind fun ds => if ds.all (noL 12) = true then leaf (.loc S.length, S ++ [.lst (ds.map .d)]) else fail)
theorem sm_L {m : En → Tree (List D)} (h : SL X e m) : SM X e (meL m) := ⟨PE.weak h.pe fun σ H Q ⟨as, F, E, S, g, hm, r, q⟩ => by
  rcases orT_all q with q | q
  · refine ⟨fun _ => True, F, view0 E, g, view0_rel r _, Tree.all_mono (fun ds k a xs F2 H2 e2 ha np nt n0 rs => ?_) (Tree.all_bind.mp q)⟩
    obtain ⟨y1, y2, y3⟩ := newLoc e2.toM (hm.ext e2) ha np nt n0 (not_in hm n0) (relMs_d rs)
    exact (show ∀ v as' F' H', ExtM as F H as' F' H' → HM X.K F' H' as' (S ++ [.lst (ds.map .d)]) → RelM X.K F' as' v (.loc S.length) → Q v H' from k) _ _ _ _ y1 y2 y3
  · refine ⟨fun _ => True, frzF S as H F, snap E S, (frz_good g hm).1, snap_rel g hm r _, Tree.all_mono (fun ds k a xs F2 H2 e2 ha np nt n0 rs => ?_) (Tree.all_bind.mp q)⟩
    by_cases hd : ds.all (noL 12) = true
    · have k : (if ds.all (noL 12) = true then leaf (MV.loc S.length, S ++ [.lst (ds.map .d)]) else fail : Tree (MV × MSt)).all _ := k
      rw [if_pos hd] at k
      obtain ⟨x1, x2⟩ := rollM g hm e2
      have np' : (rollF S as F2).P a = none := by
        show (if a ∈ ownA S as then none else F2.P a) = none
        by_cases m : a ∈ ownA S as
        · rw [if_pos m]
        · rw [if_neg m]; exact np
      obtain ⟨y1, y2, y3⟩ := newLoc x1 x2 ha np' nt n0 (not_in hm n0) (relMs_d (roll_reps (roll_rep hm e2 12) ds xs hd rs))
      exact (show ∀ v as' F' H', ExtM as F H as' F' H' → HM X.K F' H' as' (S ++ [.lst (ds.map .d)]) → RelM X.K F' as' v (.loc S.length) → Q v H' from k) _ _ _ _ y1 y2 y3
    · have k : (if ds.all (noL 12) = true then leaf (MV.loc S.length, S ++ [.lst (ds.map .d)]) else fail : Tree (MV × MSt)).all _ := k
      rw [if_neg hd] at k; exact k.elim⟩
/-- a name -/
def meVar (i : Nat) : MT MV := fun E S => match E[i]? with
  | some (some m) => leaf (m, S)
  | _ => fail
theorem sm_var {i : Nat} {x : Str} {pos : Pos} (h : PE X (.Name x pos) (tVar i)) : SM X (.Name x pos) (meVar i) := ⟨PE.weak h fun σ H Q ⟨as, F, E, S, g, hm, r, q⟩ => by
  unfold meVar at q
  split at q
  · rename_i m he
    obtain ⟨v, h1, h2⟩ := r.val i m he
    exact ⟨v, h1, (show ∀ v as' F' H', ExtM as F H as' F' H' → HM X.K F' H' as' S → RelM X.K F' as' v m → Q v H' from q) v as F H (ExtM.refl g) hm h2⟩
  · exact q.elim⟩
/-- x[i], x a list of one's own -/
def ixM (r s : MV) (S : MSt) : Tree (MV × MSt) := match r, s with
  | .loc n, .d (.int k) => match S[n]? with
    | some (.lst xs) => match ixN xs.length k with
      | some j => match xs[j]? with
        | some m => leaf (m, S)
        | none => fail
      | none => fail
    | _ => fail
  | _, _ => fail
def meIx (mx mi : MT MV) : MT MV := fun E S => (mx E S).bind fun r => (mi E r.2).bind fun s => ixM r.1 s.1 s.2
theorem relMs_len {vs : List V} {xs : List MV} (h : RelMs K F as vs xs) : vs.length = xs.length := Paired.length h
theorem relMs_get : ∀ {vs : List V} {xs : List MV} {j : Nat} {m : MV}, RelMs K F as vs xs → xs[j]? = some m → ∃ v, vs[j]? = some v ∧ RelM K F as v m
  | _, _, _, _, .nil, e => by simp at e
  | _, _, 0, m, .cons r _, e => by simp at e; subst e; exact ⟨_, rfl, r⟩
  | _, _, j + 1, m, .cons _ rs, e => by
    obtain ⟨v, h1, h2⟩ := relMs_get (j := j) (m := m) rs (by simpa using e)
    exact ⟨v, by simpa using h1, h2⟩
theorem relMs_set {v : V} {m : MV} (h : RelM K F as v m) : ∀ {vs : List V} {xs : List MV} (j : Nat), RelMs K F as vs xs → RelMs K F as (vs.set j v) (xs.set j m)
  | _, _, _, .nil => .nil
  | _, _, 0, .cons _ r => .cons h r
  | _, _, j + 1, .cons q r => .cons q (relMs_set h j r)
theorem ixM_all {r s : MV} {S : MSt} {P : MV × MSt → Prop} (h : (ixM r s S).all P) : ∃ n k xs j m, r = .loc n ∧ s = .d (.int k) ∧ S[n]? = some (.lst xs) ∧ ixN xs.length k = some j ∧ xs[j]? = some m ∧ P (m, S) := by
  unfold ixM at h
  split at h
  · rename_i n k
    split at h
    · rename_i xs hs
      split at h
      · rename_i j hj
        split at h
        · rename_i m hm
          exact ⟨n, k, xs, j, m, rfl, rfl, hs, hj, hm, h⟩
        · exact h.elim
      · exact h.elim
    · exact h.elim
  · exact h.elim
theorem sm_ix {a b : Expr} {pos : Pos} {ma mb : MT MV} (ha : SM X a ma) (hb : SM X b mb) (hs : PlainIx b) : SM X (.Subscript a b pos) (meIx ma mb) := ⟨PE.weak (pe_ix ix_list ha.pe hb.pe hs) fun σ H Q ⟨as, F, E, S, g, hm, r, q⟩ => by
  refine ⟨as, F, E, S, g, hm, r, Tree.all_mono (fun r1 k v as1 F1 H1 x1 h1 q1 => ?_) (Tree.all_bind.mp q)⟩
  refine ⟨as1, F1, E, r1.2, x1.good, h1, r.ext x1, Tree.all_mono (fun r2 k w as2 F2 H2 x2 h2 q2 => ?_) (Tree.all_bind.mp k)⟩
  obtain ⟨n, i, xs, j, m, e1, e2, hS, hj, hx, k⟩ := ixM_all k
  rw [e1] at q1
  rw [e2] at q2
  obtain ⟨p, hp, rfl⟩ := q1.ext x2
  have q2 : Rep X.K F2 w (.int i) := q2
  cases q2
  obtain ⟨_, _, vs, hv, rs⟩ := h2.obj n _ p hS hp
  obtain ⟨v, hv2, rv⟩ := relMs_get rs hx
  refine ⟨p, vs, i, v, rfl, rfl, .of hv, ?_, k v as2 F2 H2 (x1.trans x2) h2 rv⟩
  unfold atI
  rw [relMs_len rs, hj]
  exact hv2⟩
theorem sma_nil : SMA X [] (fun _ S => leaf ([], S)) := ⟨PA.weak pa_nil fun σ H Q ⟨as, F, E, S, g, hm, r, q⟩ => (show ∀ vs as' F' H', ExtM as F H as' F' H' → HM X.K F' H' as' S → RelMs X.K F' as' vs [] → Q vs H' from q) [] as F H (ExtM.refl g) hm .nil⟩
def maCons (m : MT MV) (n : MT (List MV)) : MT (List MV) := fun E S => (m E S).bind fun r => (n E r.2).bind fun s => leaf (r.1 :: s.1, s.2)
theorem sma_cons {es : List Expr} {m : MT MV} {n : MT (List MV)} (ha : SM X e m) (hr : SMA X es n) (hs : starEach (e :: es) X.env = (false, eval e X.env) :: starEach es X.env := by rfl) : SMA X (e :: es) (maCons m n) := ⟨PA.weak (pa_cons ha.pe hr.pa hs) fun σ H Q ⟨as, F, E, S, g, hm, r, q⟩ => by
  refine ⟨as, F, E, S, g, hm, r, Tree.all_mono (fun r1 k v as1 F1 H1 x1 h1 q1 => ?_) (Tree.all_bind.mp q)⟩
  refine ⟨as1, F1, E, r1.2, x1.good, h1, r.ext x1, Tree.all_mono (fun r2 k vs as2 F2 H2 x2 h2 q2 => ?_) (Tree.all_bind.mp k)⟩
  exact (show ∀ vs as' F' H', ExtM as F H as' F' H' → HM X.K F' H' as' r2.2 → RelMs X.K F' as' vs (r1.1 :: r2.1) → Q vs H' from k) (v :: vs) as2 F2 H2 (x1.trans x2) h2 (.cons (q1.ext x2) q2)⟩
end
end R

set_option Elab.async false
set_option linter.all false
set_option maxRecDepth 100000
set_option maxHeartbeats 2000000
/-! the mutable mirror: statements, promises, calls -/
namespace R
open PySem PySem.Spec PyProof.Rows L2
open Tree (leaf fail)
inductive MOut where
  | nx (E : MEn) (S : MSt) | rt (m : MV) (S : MSt) | bk (E : MEn) (S : MSt) | ct (E : MEn) (S : MSt)
def LeM (as : List Addr) (F : Fz) (as' : List Addr) (F' : Fz) : Prop := F.Le F' ∧ ∃ bs, as' = as ++ bs
theorem LeM.refl {as : List Addr} {F : Fz} : LeM as F as F := ⟨Fz.Le.refl F, [], by simp⟩
theorem LeM.trans {as as1 as2 : List Addr} {F F1 F2 : Fz} (a : LeM as F as1 F1) (b : LeM as1 F1 as2 F2) : LeM as F as2 F2 := by
  obtain ⟨l1, b1, e1⟩ := a
  obtain ⟨l2, b2, e2⟩ := b
  exact ⟨l1.trans l2, b1 ++ b2, by rw [e2, e1, List.append_assoc]⟩
theorem ExtM.leM {as as' : List Addr} {F F' : Fz} {H H' : Hp} (x : ExtM as F H as' F' H') : LeM as F as' F' := ⟨x.le, x.pre⟩
section
variable (K : PySem.W.Frag) (as0 : List Addr) (F0 : Fz) (H0 : Hp) (as : List Addr) (F : Fz) (D0 : Ends)
def PostME (T : L2.St → Hp → Prop) (E : MEn) (S : MSt) : Prop := ∀ σ' as' F' H', ExtM as0 F0 H0 as' F' H' → LeM as F as' F' → HM K F' H' as' S → RelME K F' as' σ' E → T σ' H'
def PostM : MOut → Prop
  | .nx E S => PostME K as0 F0 H0 as F D0.nx E S
  | .rt m S => ∀ v as' F' H', ExtM as0 F0 H0 as' F' H' → LeM as F as' F' → HM K F' H' as' S → RelM K F' as' v m → D0.rt v H'
  | .bk E S => PostME K as0 F0 H0 as F D0.bk E S
  | .ct E S => PostME K as0 F0 H0 as F D0.ct E S
end
theorem PostM.le {K : PySem.W.Frag} {as0 as as1 : List Addr} {F0 F F1 : Fz} {H0 : Hp} {D0 : Ends} {o : MOut} (l : LeM as F as1 F1) (h : PostM K as0 F0 H0 as F D0 o) : PostM K as0 F0 H0 as1 F1 D0 o := by
  cases o with
  | nx E S => exact fun σ' as' F' H' e l' => h σ' as' F' H' e (l.trans l')
  | rt m S => exact fun v as' F' H' e l' => h v as' F' H' e (l.trans l')
  | bk E S => exact fun σ' as' F' H' e l' => h σ' as' F' H' e (l.trans l')
  | ct E S => exact fun σ' as' F' H' e l' => h σ' as' F' H' e (l.trans l')
abbrev MS := MEn → MSt → Tree MOut
def tMS (K : PySem.W.Frag) (m : MS) : TS := fun D0 σ H => ∃ as0 F0 H0 as F E S, ExtM as0 F0 H0 as F H ∧ HM K F H as S ∧ RelME K F as σ E ∧ (m E S).all (PostM K as0 F0 H0 as F D0)
structure SMS (X : Cx) (st : Stmt) (m : MS) : Prop where
  ps : PS X st (tMS X.K m)
structure SMSs (X : Cx) (st : List Stmt) (m : MS) : Prop where
  ps : PSs X st (tMS X.K m)
section
variable {X : Cx} {st : Stmt} {rest a b : List Stmt} {e : Expr} {pos : Pos} {m n : MS} {me : MT MV}
def msNx : MS := fun E S => leaf (.nx E S)
def msSeq (m n : MS) : MS := fun E S => (m E S).bind fun o => match o with
  | .nx E' S' => n E' S'
  | o => leaf o
theorem ms_nil : SMSs X [] msNx := ⟨PSs.weak pss_nil fun D0 σ H ⟨as0, F0, H0, as, F, E, S, x, h, r, q⟩ => q σ as F H x LeM.refl h r⟩
theorem ms_cons (h1 : SMS X st m) (h2 : SMSs X rest n) : SMSs X (st :: rest) (msSeq m n) := by
  refine ⟨PSs.weak (pss_cons h1.ps h2.ps) fun D0 σ H ⟨as0, F0, H0, as, F, E, S, x, h, r, q⟩ => ?_⟩
  refine ⟨as0, F0, H0, as, F, E, S, x, h, r, Tree.all_mono (fun o k => ?_) (Tree.all_bind.mp q)⟩
  cases o with
  | nx E' S' => exact fun σ' as' F' H' x' l h' r' => ⟨as0, F0, H0, as', F', E', S', x', h', r', Tree.all_mono (fun o k => k.le l) k⟩
  | rt m S => exact k
  | bk E S => exact k
  | ct E S => exact k
theorem ms_one (h1 : SMS X st m) : SMSs X [st] m := ⟨pss_one h1.ps⟩
theorem ms_pass : SMS X (.Pass pos) msNx := ⟨PS.weak ps_pass fun D0 σ H ⟨as0, F0, H0, as, F, E, S, x, h, r, q⟩ => q σ as F H x LeM.refl h r⟩
def msBk : MS := fun E S => leaf (.bk E S)
def msCt : MS := fun E S => leaf (.ct E S)
theorem ms_break : SMS X (.Break pos) msBk := ⟨PS.weak ps_break fun D0 σ H ⟨as0, F0, H0, as, F, E, S, x, h, r, q⟩ => q σ as F H x LeM.refl h r⟩
theorem ms_continue : SMS X (.Continue pos) msCt := ⟨PS.weak ps_continue fun D0 σ H ⟨as0, F0, H0, as, F, E, S, x, h, r, q⟩ => q σ as F H x LeM.refl h r⟩
theorem exprM {K : PySem.W.Frag} {as0 as : List Addr} {F0 F : Fz} {H0 H : Hp} {σ : L2.St} {E : MEn} {S : MSt} {Q : VK} (x : ExtM as0 F0 H0 as F H) (h : HM K F H as S) (r : RelME K F as σ E)
    (q : (me E S).all fun z => ∀ v as' F' H', ExtM as0 F0 H0 as' F' H' → LeM as F as' F' → HM K F' H' as' z.2 → RelME K F' as' σ E → RelM K F' as' v z.1 → Q v H') : tM K me σ H Q :=
  ⟨as, F, E, S, x.good, h, r, Tree.all_mono (fun z k v as' F' H' x' h' q' => k v as' F' H' (x.trans x') x'.leM h' (r.ext x') q') q⟩
def msEx (me : MT MV) : MS := fun E S => (me E S).bind fun r => leaf (.nx E r.2)
theorem ms_expr (he : SM X e me) (hs : swapsWith e none pos.line X.env = pure false := by rfl) : SMS X (.Expr e pos) (msEx me) := ⟨PS.weak (ps_expr he.pe hs) fun D0 σ H ⟨as0, F0, H0, as, F, E, S, x, h, r, q⟩ =>
  exprM x h r (Tree.all_mono (fun z k v as' F' H' x' l h' r' q' => k σ as' F' H' x' l h' r') (Tree.all_bind.mp q))⟩
def msRet (me : MT MV) : MS := fun E S => (me E S).bind fun r => leaf (.rt r.1 r.2)
theorem ms_ret (he : SM X e me) : SMS X (.Return (some e) pos) (msRet me) := ⟨PS.weak (ps_ret he.pe) fun D0 σ H ⟨as0, F0, H0, as, F, E, S, x, h, r, q⟩ =>
  exprM x h r (Tree.all_mono (fun z k v as' F' H' x' l h' r' q' => k v as' F' H' x' l h' q') (Tree.all_bind.mp q))⟩
def msRetN : MS := fun _ S => leaf (.rt (.d .non) S)
theorem ms_retN : SMS X (.Return none pos) msRetN := ⟨PS.weak ps_retN fun D0 σ H ⟨as0, F0, H0, as, F, E, S, x, h, r, q⟩ => q .non as F H x LeM.refl h .non⟩
theorem RelME.put {K : PySem.W.Frag} {F : Fz} {as : List Addr} {σ : L2.St} {E : MEn} (r : RelME K F as σ E) (i : Nat) {v : V} {m : MV} (h : RelM K F as v m) : RelME K F as (σ.set i (some v)) (E.set i (some m)) := ⟨by simp [r.len], fun j y hj => by
  by_cases e : i = j
  · subst e
    by_cases hl : i < E.length
    · rw [List.getElem?_set_self hl] at hj; cases hj
      exact ⟨v, List.getElem?_set_self (by rw [r.len]; exact hl), h⟩
    · rw [List.getElem?_eq_none (by simpa using hl)] at hj; cases hj
  · rw [List.getElem?_set_ne e] at hj ⊢; exact r.val j y hj⟩
/-! targets -/
def tMG (K : PySem.W.Frag) (g : MV → MEn → MSt → Tree (MEn × MSt)) : TG := fun v σ H Q => ∃ as F E S m, Good F H ∧ HM K F H as S ∧ RelME K F as σ E ∧ RelM K F as v m ∧ (g m E S).all fun r => ∀ σ' as' F' H', ExtM as F H as' F' H' → HM K F' H' as' r.2 → RelME K F' as' σ' r.1 → Q σ' H'
structure SMG (X : Cx) (tg : Expr) (g : MV → MEn → MSt → Tree (MEn × MSt)) : Prop where
  pg : PG X tg (tMG X.K g)
def tMGs (K : PySem.W.Frag) (g : List D → MEn → MSt → Tree (MEn × MSt)) : TGs := fun vs σ H Q => ∃ as F E S ds, Good F H ∧ HM K F H as S ∧ RelME K F as σ E ∧ Reps K F vs ds ∧ (g ds E S).all fun r => ∀ σ' as' F' H', ExtM as F H as' F' H' → HM K F' H' as' r.2 → RelME K F' as' σ' r.1 → Q σ' H'
structure SMGs (X : Cx) (ts : List Expr) (g : List D → MEn → MSt → Tree (MEn × MSt)) : Prop where
  pg : PGs X ts (tMGs X.K g)
def mgPut (i : Nat) : MV → MEn → MSt → Tree (MEn × MSt) := fun m E S => leaf (E.set i (some m), S)
theorem mg_name {i : Nat} {x : Str} (h : PG X (.Name x pos) (gName i)) : SMG X (.Name x pos) (mgPut i) := ⟨PG.weak h fun v σ H Q ⟨as, F, E, S, m, g, h, r, p, q⟩ => q _ as F H (ExtM.refl g) h (r.put i p)⟩
theorem tabs_mu {T : List (Addr × Str)} {H H' : Hp} (t : LamX.Tabs T H) (k : ∀ a o, H a = some o → isMu o = false → H' a = some o) : LamX.Tabs T H' := fun p hp => by
  obtain ⟨ps, h1, h2, h3⟩ := t p hp
  refine ⟨ps, k _ _ h1 rfl, h2, fun pos cv hc => ?_⟩
  obtain ⟨c, e, h⟩ := h3 pos cv hc
  exact ⟨c, e, k _ _ h (by unfold LamX.CodeO; rfl)⟩
/-- the n-th thing is changed -/
theorem setLocG {K : PySem.W.Frag} {F : Fz} {H : Hp} {as : List Addr} {S : MSt} {n : Nat} {a : Addr} {u u' : HO} {o' : MO} (g : Good F H) (h : HM K F H as S) (hn : n < S.length) (ha : as[n]? = some a) (np : F.P a = none) (nt : ¬ F.T a) (hv : H a = some u) (mu : isMu u = true) (mu' : isMu u' = true) (ob : ObjM K F as (upd H a u') a o') :
    ExtM as F H as F (upd H a u') ∧ HM K F (upd H a u') as (S.set n o') := by
  have ma : a ∈ as := List.mem_of_getElem? ha
  have other : ∀ {b : Addr} {k : Nat}, as[k]? = some b → k ≠ n → b ≠ a := fun {b k} hb ne e => by
    subst e
    exact ne ((List.getElem?_inj (List.getElem?_eq_some_iff.mp hb).1 h.nd).mp (hb.trans ha.symm))
  refine ⟨⟨⟨fun b o q => ?_, fun b t => ?_, g.nt, tabs_mu g.tab fun b o q nl => ?_, fun f ob q qq ps bo sc cl pm c ctv z => ?_⟩, Same.refl _, fun _ t => t, ⟨[], by simp⟩, fun b o q _ nb _ => ?_, fun b hb => .inl hb, fun b hb => hb.elim .inl fun z => .inr (.inl z)⟩, ⟨by simp [h.len], h.nd, fun b hb => ?_, h.nT, fun k o b hk hb => ?_⟩⟩
  · rw [upd_ne (fun z : b = a => by rw [z, np] at q; cases q)]; exact g.sub b o q
  · rw [upd_ne (fun z : b = a => nt (z ▸ t))]; exact g.pot b t
  · rw [upd_ne (fun z : b = a => by rw [z, hv] at q; cases q; rw [mu] at nl; cases nl)]; exact q
  · have k := g.cod f ob q qq ps bo sc cl pm c ctv z
    rw [upd_ne (fun z2 : c = a => by
      rw [z2, hv] at k
      have k := Option.some.inj k
      subst k
      cases mu)]; exact k
  · rw [upd_ne (fun z : b = a => nb (z ▸ ma))]; exact q
  · by_cases e : b = a
    · subst e; exact ⟨u', upd_same, mu'⟩
    · rw [upd_ne e]; exact h.live b hb
  · by_cases e : k = n
    · subst e
      rw [ha] at hb
      cases hb
      rw [List.getElem?_set_self hn] at hk
      cases hk
      exact ob
    · rw [List.getElem?_set_ne (Ne.symm e)] at hk
      have z := h.obj k o b hk hb
      have ne := other hb e
      cases o with
      | off => exact True.intro
      | lst zs =>
        obtain ⟨z1, z2, us, z3, z4⟩ := z
        exact ⟨z1, z2, us, by rw [upd_ne ne]; exact z3, z4⟩
      | ins C zs =>
        obtain ⟨z1, z2, dx, us, z3, z4⟩ := z
        exact ⟨z1, z2, dx, us, by rw [upd_ne ne]; exact z3, z4⟩
      | dK zs =>
        obtain ⟨z1, z2, us, z3, z4⟩ := z
        exact ⟨z1, z2, us, by rw [upd_ne ne]; exact z3, z4⟩
      | dT zs =>
        obtain ⟨z1, z2, us, z3, z4⟩ := z
        exact ⟨z1, z2, us, by rw [upd_ne ne]; exact z3, z4⟩
/-- the n-th list gets new items -/
theorem setLoc {K : PySem.W.Frag} {F : Fz} {H : Hp} {as : List Addr} {S : MSt} {n : Nat} {a : Addr} {xs : List MV} {ws : List V} {ys : List MV} (g : Good F H) (h : HM K F H as S) (hs : S[n]? = some (.lst xs)) (ha : as[n]? = some a) (rs : RelMs K F as ws ys) :
    ExtM as F H as F (upd H a (.lst ws)) ∧ HM K F (upd H a (.lst ws)) as (S.set n (.lst ys)) := by
  obtain ⟨np, nt, vs, hv, _⟩ := h.obj n _ a hs ha
  exact setLocG g h (List.getElem?_eq_some_iff.mp hs).1 ha np nt hv rfl rfl ⟨np, nt, ws, upd_same, rs⟩
/-- o[i] = .. -/
def mgSub (mo mi : MT MV) : MV → MEn → MSt → Tree (MEn × MSt) := fun m E S => (mo E S).bind fun r => (mi E r.2).bind fun s => match r.1, s.1 with
  | .loc n, .d (.int k) => match s.2[n]? with
    | some (.lst xs) => match ixN xs.length k with
      | some j => leaf (E, s.2.set n (.lst (xs.set j m)))
      | none => fail
    | _ => fail
  | _, _ => fail
theorem mg_sub {o i : Expr} {mo mi : MT MV} (ho : SM X o mo) (hi : SM X i mi) (ha : ∀ v, assign (.Subscript o i pos) X.env v = (do
      let ov ← holding [v] (eval o X.env)
      let iv ← holding [v, ov] (eval i X.env)
      standAt pos
      holding [v, ov, iv] (setItem ov iv v)
      release [v, ov, iv] []) := by intro _; rfl) : SMG X (.Subscript o i pos) (mgSub mo mi) := ⟨PG.weak (pg_sub ho.pe hi.pe set_list ha) fun v σ H Q ⟨as, F, E, S, m, g, h, r, p, q⟩ => by
  refine ⟨as, F, E, S, g, h, r, Tree.all_mono (fun r1 k u as1 F1 H1 x1 h1 q1 => ?_) (Tree.all_bind.mp q)⟩
  refine ⟨as1, F1, E, r1.2, x1.good, h1, r.ext x1, Tree.all_mono (fun r2 k w as2 F2 H2 x2 h2 q2 => ?_) (Tree.all_bind.mp k)⟩
  obtain ⟨m1, S1⟩ := r1
  obtain ⟨m2, S2⟩ := r2
  cases m1 with
  | d _ => exact False.elim k
  | loc n =>
    cases m2 with
    | loc _ => exact False.elim k
    | d x =>
      cases x with
      | int kk =>
        have k : (match S2[n]? with
          | some (.lst xs) => match ixN xs.length kk with
            | some j => leaf (E, S2.set n (.lst (xs.set j m)))
            | none => fail
          | _ => fail : Tree (MEn × MSt)).all _ := k
        obtain ⟨a, hA, rfl⟩ := q1.ext x2
        have q2 : Rep X.K F2 w (.int kk) := q2
        cases q2
        cases hS : S2[n]? with
        | none => rw [hS] at k; exact k.elim
        | some oo =>
          rw [hS] at k
          cases oo with
          | off => exact False.elim k
          | ins _ _ => exact False.elim k
          | dK _ => exact False.elim k
          | dT _ => exact False.elim k
          | lst xs =>
            have k : (match ixN xs.length kk with
              | some j => leaf (E, S2.set n (.lst (xs.set j m)))
              | none => fail : Tree (MEn × MSt)).all _ := k
            obtain ⟨_, _, vs, hv, rs⟩ := h2.obj n _ a hS hA
            cases hj : ixN xs.length kk with
            | none => rw [hj] at k; exact k.elim
            | some j =>
              rw [hj] at k
              obtain ⟨y1, y2⟩ := setLoc x2.good h2 hS hA (relMs_set ((p.ext x1).ext x2) j rs)
              refine ⟨a, vs, kk, j, rfl, rfl, hv, by rw [relMs_len rs]; exact hj, ?_⟩
              exact (show ∀ σ' as' F' H', ExtM as F H as' F' H' → HM X.K F' H' as' (S2.set n (.lst (xs.set j m))) → RelME X.K F' as' σ' E → Q σ' H' from k) σ as2 F2 _ ((x1.trans x2).trans y1) y2 ((r.ext x1).ext x2)
      | _ => exact False.elim k⟩
def mgsNil : List D → MEn → MSt → Tree (MEn × MSt) := fun ds E S => match ds with
  | [] => leaf (E, S)
  | _ => fail
def mgsCons (g : MV → MEn → MSt → Tree (MEn × MSt)) (h : List D → MEn → MSt → Tree (MEn × MSt)) : List D → MEn → MSt → Tree (MEn × MSt) := fun ds E S => match ds with
  | d :: ds => (g (.d d) E S).bind fun r => h ds r.1 r.2
  | [] => fail
theorem mgs_nil : SMGs X [] mgsNil := ⟨PGs.weak pgs_nil fun vs σ H Q ⟨as, F, E, S, ds, g, h, r, p, q⟩ => by
  cases p with
  | nil => exact ⟨rfl, (show ∀ σ' as' F' H', ExtM as F H as' F' H' → HM X.K F' H' as' S → RelME X.K F' as' σ' E → Q σ' H' from q) σ as F H (ExtM.refl g) h r⟩
  | cons _ _ => exact False.elim q⟩
theorem mgs_cons {t : Expr} {ts : List Expr} {g : MV → MEn → MSt → Tree (MEn × MSt)} {gs : List D → MEn → MSt → Tree (MEn × MSt)} (h1 : SMG X t g) (h2 : SMGs X ts gs) (hs : (assignEach (t :: ts) X.env).map (·.2) = assign t X.env :: (assignEach ts X.env).map (·.2) := by rfl) : SMGs X (t :: ts) (mgsCons g gs) :=
  ⟨PGs.weak (pgs_cons h1.pg h2.pg hs) fun vs σ H Q ⟨as, F, E, S, ds, gd, h, r, p, q⟩ => by
    cases p with
    | nil => exact False.elim q
    | @cons v d vs ds rv rs =>
      refine ⟨v, vs, rfl, as, F, E, S, .d d, gd, h, r, rv, Tree.all_mono (fun z k σ' as1 F1 H1 x1 h1 r1 => ?_) (Tree.all_bind.mp q)⟩
      exact ⟨as1, F1, z.1, z.2, ds, x1.good, h1, r1, rs.mono x1.le, Tree.all_mono (fun y k σ2 as2 F2 H2 x2 h2 r2 => k σ2 as2 F2 H2 (x1.trans x2) h2 r2) k⟩⟩
def mgTp (n : Nat) (g : List D → MEn → MSt → Tree (MEn × MSt)) : MV → MEn → MSt → Tree (MEn × MSt) := fun m E S => match m with
  | .d (.tup ds) => if ds.length = n then g ds E S else fail
  | _ => fail
theorem mg_tup {es : List Expr} {kk n : Nat} {g : List D → MEn → MSt → Tree (MEn × MSt)} (hc : X.calm = true) (h : SMGs X es g) (hn : (assignEach es X.env).length = n := by rfl) (hst : (assignEach es X.env).findIdx? (·.1) = none := by rfl) : SMG X (.Tuple es kk pos) (mgTp n g) :=
  ⟨PG.weak (pg_tup hc h.pg hn hst) fun v σ H Q ⟨as, F, E, S, m, gd, h, r, p, q⟩ => by
    cases m with
    | loc _ => exact False.elim q
    | d x =>
      cases x with
      | tup ds =>
        have p : Rep X.K F v (.tup ds) := p
        cases p with
        | @tup a xs _ hs rs =>
          by_cases hl : ds.length = n
          · have q : (if ds.length = n then g ds E S else fail : Tree (MEn × MSt)).all _ := q
            rw [if_pos hl] at q
            exact ⟨a, xs, rfl, sqT_same gd.sub hs.sq, by rw [rs.length]; exact hl, as, F, E, S, ds, gd, h, r, rs, q⟩
          · have q : (if ds.length = n then g ds E S else fail : Tree (MEn × MSt)).all _ := q
            rw [if_neg hl] at q; exact q.elim
      | _ => exact False.elim q⟩
/-- tg = e -/
def msAsg (me : MT MV) (g : MV → MEn → MSt → Tree (MEn × MSt)) : MS := fun E S => (me E S).bind fun r => (g r.1 E r.2).bind fun s => leaf (.nx s.1 s.2)
theorem ms_asg {te : TE} {g : MV → MEn → MSt → Tree (MEn × MSt)} {t : TG} (h : PS X st (tAsg te t)) (w : ∀ σ H Q, tM X.K me σ H Q → te σ H Q) (wg : ∀ v σ H Q, tMG X.K g v σ H Q → t v σ H Q) : SMS X st (msAsg me g) := ⟨PS.weak h fun D0 σ H ⟨as0, F0, H0, as, F, E, S, x, h, r, q⟩ => by
  refine w _ _ _ (exprM x h r (Tree.all_mono (fun z k => ?_) (Tree.all_bind.mp q)))
  intro v as1 F1 H1 x1 l1 h1 r1 q1
  refine wg _ _ _ _ ⟨as1, F1, E, z.2, z.1, x1.good, h1, r1, q1, Tree.all_mono (fun y k => ?_) (Tree.all_bind.mp k)⟩
  exact fun σ2 as2 F2 H2 x2 h2 r2 => (show PostM X.K as0 F0 H0 as F D0 (.nx y.1 y.2) from k) σ2 as2 F2 H2 (x1.trans x2) (l1.trans x2.leM) h2 r2⟩
/-! branches, loops -/
def msIf (c : MT Bool) (m n : MS) : MS := fun E S => (c E S).bind fun r => if r.1 = true then m E r.2 else n E r.2
theorem ms_if {c : Expr} {mc : MT Bool} (hc : SMB X c mc) (ha : SMSs X a m) (hb : SMSs X b n) : SMS X (.If c a b pos) (msIf mc m n) := by
  refine ⟨PS.weak (ps_if hc.pt ha.ps hb.ps) fun D0 σ H ⟨as0, F0, H0, as, F, E, S, x, h, r, q⟩ => ?_⟩
  refine ⟨as, F, E, S, x.good, h, r, Tree.all_mono (fun z k as1 F1 H1 x1 h1 => ?_) (Tree.all_bind.mp q)⟩
  obtain ⟨bb, S1⟩ := z
  cases bb with
  | true => exact ⟨as0, F0, H0, as1, F1, E, S1, x.trans x1, h1, r.ext x1, Tree.all_mono (fun o k => k.le x1.leM) (show (m E S1).all _ from k)⟩
  | false => exact ⟨as0, F0, H0, as1, F1, E, S1, x.trans x1, h1, r.ext x1, Tree.all_mono (fun o k => k.le x1.leM) (show (n E S1).all _ from k)⟩
def msWhile (c : MT Bool) (m : MS) : Nat → MS
  | 0, _, _ => fail
  | f + 1, E, S => (c E S).bind fun r => if r.1 = true then (m E r.2).bind fun o => match o with
      | .nx E' S' => msWhile c m f E' S'
      | .ct E' S' => msWhile c m f E' S'
      | .bk E' S' => leaf (.nx E' S')
      | .rt v S' => leaf (.rt v S')
    else leaf (.nx E r.2)
theorem ms_while (fuel : Nat) {c : Expr} {mc : MT Bool} (h : ∀ {tc tb}, PT X c tc → PSs X b tb → PS X st (tWhile tc tb)) (hc : SMB X c mc) (hb : SMSs X b m) : SMS X st (msWhile mc m fuel) := by
  refine ⟨PS.weak (h hc.pt hb.ps) fun D0 σ H ⟨as0, F0, H0, as, F, E, S, x, hm, r, q⟩ => ?_⟩
  refine ⟨fun n σ H => ∃ as F E S, ExtM as0 F0 H0 as F H ∧ HM X.K F H as S ∧ RelME X.K F as σ E ∧ (msWhile mc m n E S).all (PostM X.K as0 F0 H0 as F D0), ⟨fuel, as, F, E, S, x, hm, r, q⟩, ?_⟩
  rintro n σ H ⟨as, F, E, S, x, hm, r, q⟩
  cases n with
  | zero => exact q.elim
  | succ n =>
    refine ⟨as, F, E, S, x.good, hm, r, Tree.all_mono (fun z k as1 F1 H1 x1 h1 => ?_) (Tree.all_bind.mp q)⟩
    obtain ⟨bb, S1⟩ := z
    cases bb with
    | false => exact (show PostM X.K as0 F0 H0 as F D0 (.nx E S1) from k) σ as1 F1 H1 (x.trans x1) x1.leM h1 (r.ext x1)
    | true =>
      refine ⟨_, fun σ' H' p => ⟨n, Nat.lt_succ_self n, p⟩, ?_⟩
      refine ⟨as0, F0, H0, as1, F1, E, S1, x.trans x1, h1, r.ext x1, Tree.all_mono (fun o k => ?_) (Tree.all_bind.mp (show ((m E S1).bind _).all _ from k))⟩
      cases o with
      | nx E' S' => exact fun σ2 as2 F2 H2 x2 l2 h2 r2 => ⟨as2, F2, E', S', x2, h2, r2, Tree.all_mono (fun o k => k.le (x1.leM.trans l2)) k⟩
      | ct E' S' => exact fun σ2 as2 F2 H2 x2 l2 h2 r2 => ⟨as2, F2, E', S', x2, h2, r2, Tree.all_mono (fun o k => k.le (x1.leM.trans l2)) k⟩
      | bk E' S' => exact fun σ2 as2 F2 H2 x2 l2 h2 r2 => (show PostM X.K as0 F0 H0 as F D0 (.nx E' S') from k) σ2 as2 F2 H2 x2 (x1.leM.trans l2) h2 r2
      | rt v S' => exact fun w as2 F2 H2 x2 l2 h2 q2 => (show PostM X.K as0 F0 H0 as F D0 (.rt v S') from k) w as2 F2 H2 x2 (x1.leM.trans l2) h2 q2
end
end R

set_option Elab.async false
set_option linter.all false
set_option maxRecDepth 100000
set_option maxHeartbeats 2000000
/-! the mutable mirror: targets, what is walked, for, comprehensions, defs -/
namespace R
open PySem PySem.Spec PyProof.Rows L2
open Tree (leaf fail)
/-- what a turn of a loop gets: a value, or a fresh tuple of values -/
inductive MItm where
  | one (m : MV) | tup (ms : List MV)
inductive MIr where
  | it (m : MItm) | stop | bad
abbrev MIt := Nat → MSt → MIr
def RelI (K : PySem.W.Frag) (F : Fz) (as : List Addr) (H : Hp) (x : V) : MItm → Prop
  | .one m => RelM K F as x m
  | .tup ms => ∃ T vs, x = .ref T ∧ sq K .t H T vs ∧ RelMs K F as vs ms
/-! ### targets that are names -/
def tMT (K : PySem.W.Frag) (js : List Nat) (g : MItm → MEn → Tree MEn) : TG := fun v σ H Q => ∃ as F E S m, Good F H ∧ HM K F H as S ∧ RelME K F as σ E ∧ RelI K F as H v m ∧ (g m E).all fun E' => ∀ σ', RelME K F as σ' E' → But js σ σ' → Q σ' H
structure SMT (X : Cx) (tg : Expr) (js : List Nat) (g : MItm → MEn → Tree MEn) : Prop where
  pg : PG X tg (tMT X.K js g)
def tMTs (K : PySem.W.Frag) (js : List Nat) (g : List MV → MEn → Tree MEn) : TGs := fun vs σ H Q => ∃ as F E S ms, Good F H ∧ HM K F H as S ∧ RelME K F as σ E ∧ RelMs K F as vs ms ∧ (g ms E).all fun E' => ∀ σ', RelME K F as σ' E' → But js σ σ' → Q σ' H
structure SMTs (X : Cx) (ts : List Expr) (js : List Nat) (g : List MV → MEn → Tree MEn) : Prop where
  pg : PGs X ts (tMTs X.K js g)
section
variable {X : Cx} {pos : Pos}
def mtName (i : Nat) : MItm → MEn → Tree MEn := fun m E => match m with
  | .one m => leaf (E.set i (some m))
  | .tup _ => fail
theorem mt_name {i : Nat} {x : Str} (h : PG X (.Name x pos) (gName i)) : SMT X (.Name x pos) [i] (mtName i) := ⟨PG.weak h fun v σ H Q ⟨as, F, E, S, m, g, hm, r, p, q⟩ => by
  cases m with
  | one m => exact (show ∀ σ', RelME X.K F as σ' (E.set i (some m)) → But [i] σ σ' → Q σ' H from q) _ (r.put i p) ⟨by simp, fun j n => List.getElem?_set_ne (fun e => n (by rw [e]; exact List.mem_singleton.mpr rfl))⟩
  | tup _ => exact False.elim q⟩
def mtNil : List MV → MEn → Tree MEn := fun ms E => match ms with
  | [] => leaf E
  | _ => fail
def mtCons (g : MItm → MEn → Tree MEn) (h : List MV → MEn → Tree MEn) : List MV → MEn → Tree MEn := fun ms E => match ms with
  | m :: ms => (g (.one m) E).bind fun E' => h ms E'
  | [] => fail
theorem mts_nil : SMTs X [] [] mtNil := ⟨PGs.weak pgs_nil fun vs σ H Q ⟨as, F, E, S, ms, g, h, r, p, q⟩ => by
  cases p with
  | nil => exact ⟨rfl, (show ∀ σ', RelME X.K F as σ' E → But [] σ σ' → Q σ' H from q) σ r ⟨rfl, fun _ _ => rfl⟩⟩
  | cons _ _ => exact False.elim q⟩
theorem mts_cons {t : Expr} {ts : List Expr} {js ks : List Nat} {g : MItm → MEn → Tree MEn} {gs : List MV → MEn → Tree MEn} (h1 : SMT X t js g) (h2 : SMTs X ts ks gs) (hs : (assignEach (t :: ts) X.env).map (·.2) = assign t X.env :: (assignEach ts X.env).map (·.2) := by rfl) : SMTs X (t :: ts) (js ++ ks) (mtCons g gs) :=
  ⟨PGs.weak (pgs_cons h1.pg h2.pg hs) fun vs σ H Q ⟨as, F, E, S, ms, gd, h, r, p, q⟩ => by
    cases p with
    | nil => exact False.elim q
    | @cons v m vs ms rv rs =>
      refine ⟨v, vs, rfl, as, F, E, S, .one m, gd, h, r, rv, Tree.all_mono (fun E' k σ' r1 b1 => ?_) (Tree.all_bind.mp (show ((g (.one m) E).bind fun E' => gs ms E').all _ from q))⟩
      exact ⟨as, F, E', S, ms, gd, h, r1, rs, Tree.all_mono (fun E2 k σ2 r2 b2 => k σ2 r2 ⟨b2.1.trans b1.1, fun j n => (b2.2 j fun m => n (List.mem_append_right _ m)).trans (b1.2 j fun m => n (List.mem_append_left _ m))⟩) k⟩⟩
def mtTup (n : Nat) (g : List MV → MEn → Tree MEn) : MItm → MEn → Tree MEn := fun m E => match m with
  | .tup ms => if ms.length = n then g ms E else fail
  | .one (.d (.tup ds)) => if ds.length = n then g (ds.map .d) E else fail
  | _ => fail
theorem mt_tup {es : List Expr} {kk n : Nat} {js : List Nat} {g : List MV → MEn → Tree MEn} (hc : X.calm = true) (h : SMTs X es js g) (hn : (assignEach es X.env).length = n := by rfl) (hst : (assignEach es X.env).findIdx? (·.1) = none := by rfl) : SMT X (.Tuple es kk pos) js (mtTup n g) :=
  ⟨PG.weak (pg_tup hc h.pg hn hst) fun v σ H Q ⟨as, F, E, S, m, gd, h, r, p, q⟩ => by
    cases m with
    | tup ms =>
      obtain ⟨a, vs, rfl, hs, rs⟩ := p
      by_cases hl : ms.length = n
      · have q : (if ms.length = n then g ms E else fail : Tree MEn).all _ := q
        rw [if_pos hl] at q
        exact ⟨a, vs, rfl, hs, by rw [relMs_len rs]; exact hl, as, F, E, S, ms, gd, h, r, rs, q⟩
      · have q : (if ms.length = n then g ms E else fail : Tree MEn).all _ := q
        rw [if_neg hl] at q; exact q.elim
    | one m =>
      cases m with
      | loc _ => exact False.elim q
      | d x =>
        cases x with
        | tup ds =>
          have p : Rep X.K F v (.tup ds) := p
          cases p with
          | @tup a xs _ hs rs =>
            by_cases hl : ds.length = n
            · have q : (if ds.length = n then g (ds.map .d) E else fail : Tree MEn).all _ := q
              rw [if_pos hl] at q
              exact ⟨a, xs, rfl, sqT_same gd.sub hs.sq, by rw [rs.length]; exact hl, as, F, E, S, ds.map .d, gd, h, r, relMs_d rs, q⟩
            · have q : (if ds.length = n then g (ds.map .d) E else fail : Tree MEn).all _ := q
              rw [if_neg hl] at q; exact q.elim
        | _ => exact False.elim q⟩
end
/-! ### what is walked -/
def YldM (K : PySem.W.Frag) (as' : List Addr) (F' : Fz) (J : It) (t : MIt) : Prop := ∀ i as2 F2 H2 S2, LeM as' F' as2 F2 → Good F2 H2 → HM K F2 H2 as2 S2 → match t i S2 with
  | .stop => J.stop i H2
  | .it m => J.go i H2 ∧ ∀ x H'', J.yld i H2 x H'' → ∃ F'', Ext F2 H2 F'' H'' ∧ RelI K F'' as2 H'' x m
  | .bad => True
structure SMI (X : Cx) (tg iter : Expr) (mi : MT MIt) : Prop where
  pi : ∃ wi, PI X tg iter wi ∧ ∀ σ H R, (∃ as F E S, Good F H ∧ HM X.K F H as S ∧ RelME X.K F as σ E ∧ (mi E S).all fun r => ∀ J as' F' H', ExtM as F H as' F' H' → HM X.K F' H' as' r.2 → YldM X.K as' F' J r.1 → R J H') → wi σ H R
def itD (ds : List D) : MIt := fun i _ => match ds[i]? with
  | some d => .it (.one (.d d))
  | none => .stop
section
variable {X : Cx} {tg e e2 : Expr} {p pos : Pos}
theorem smi_R {m : En → Tree (List D)} (h : SI X tg e m) : SMI X tg e (fun E S => (m (view0 E)).bind fun ds => leaf (itD ds, S)) := by
  obtain ⟨wi, h1, h2⟩ := h.pi
  refine ⟨wi, h1, fun σ H R ⟨as, F, E, S, g, hm, r, q⟩ => h2 σ H R ⟨fun _ => True, F, view0 E, g, view0_rel r _, Tree.all_mono (fun ds k J F' H' e y => ?_) (Tree.all_bind.mp q)⟩⟩
  refine (show ∀ J as' F' H', ExtM as F H as' F' H' → HM X.K F' H' as' S → YldM X.K as' F' J (itD ds) → R J H' from k) J as F' H' e.toM (hm.ext e) (fun i as2 F2 H2 S2 l g2 h2 => ?_)
  obtain ⟨y1, y2⟩ := y F2 H2 l.1 g2 i
  unfold itD
  cases hd : ds[i]? with
  | none => exact y2 (List.getElem?_eq_none_iff.mp hd)
  | some d =>
    obtain ⟨go, yl⟩ := y1 d hd
    exact ⟨go, fun x H'' yx => yl x H'' yx⟩
def locAt (S : MSt) (n : Nat) : Option (List MV) := match S[n]? with
  | some (.lst xs) => some xs
  | _ => none
theorem locAt_of {S : MSt} {n : Nat} {xs : List MV} (h : locAt S n = some xs) : S[n]? = some (.lst xs) := by
  unfold locAt at h
  split at h
  · cases h; assumption
  · cases h
def srcAt (S : MSt) : MV → Option (List MV)
  | .d (.lst ds) => some (ds.map .d)
  | .d (.tup ds) => some (ds.map .d)
  | .d (.scr ns) => some (ns.map fun i => .d (.int i))
  | .loc n => locAt S n
  | _ => none
def kindM : MV → SK
  | .d (.tup _) => .t
  | _ => .l
theorem src_at {K : PySem.W.Frag} {F : Fz} {H : Hp} {as : List Addr} {S : MSt} {v : V} {m : MV} {ms : List MV} (g : Good F H) (h : HM K F H as S) (r : RelM K F as v m) (e : srcAt S m = some ms) : ∃ a xs, v = .ref a ∧ sq K (kindM m) H a xs ∧ RelMs K F as xs ms := by
  cases m with
  | loc n =>
    obtain ⟨a, ha, rfl⟩ := r
    obtain ⟨_, _, vs, hv, rs⟩ := h.obj n _ a (locAt_of e) ha
    exact ⟨a, vs, rfl, .of hv, rs⟩
  | d x =>
    have r : Rep K F v x := r
    cases r with
    | lst hs rs => cases e; exact ⟨_, _, rfl, .of (g.sub _ _ hs), relMs_d rs⟩
    | tup hs rs => cases e; exact ⟨_, _, rfl, sqT_same g.sub hs.sq, relMs_d rs⟩
    | scr hs =>
      rename_i ns
      cases e
      refine ⟨_, _, rfl, g.sub.seq hs, ?_⟩
      have := relMs_d (K := K) (F := F) (as := as) (reps_ints (K := K) (F := F) ns)
      rw [List.map_map] at this
      exact this
    | _ => cases e
def itSeq (m : MV) : MIt := fun i S => match srcAt S m with
  | some ms => match ms[i]? with
    | some z => .it (.one z)
    | none => .stop
  | none => .bad
def hasSrc {α : Type} (m : MV) (S : MSt) (t : Tree α) : Tree α := match srcAt S m with
  | some _ => t
  | none => fail
theorem hasSrc_all {α : Type} {m : MV} {S : MSt} {t : Tree α} {P : α → Prop} (h : (hasSrc m S t).all P) : ∃ ms, srcAt S m = some ms ∧ t.all P := by
  unfold hasSrc at h
  split at h
  · rename_i ms e; exact ⟨ms, e, h⟩
  · exact h.elim
theorem yldM_seq {K : PySem.W.Frag} {F' : Fz} {as' : List Addr} {a : Addr} {m : MV} (r : RelM K F' as' (.ref a) m) : YldM K as' F' (Isq K (kindM m) a) (itSeq m) := by
  intro i as2 F2 H2 S2 l g2 h2
  obtain ⟨l1, bs, rfl⟩ := l
  have r2 := r.mono (bs := bs) l1
  unfold itSeq
  cases hs : srcAt S2 m with
  | none => exact True.intro
  | some ms =>
    obtain ⟨a', xs, e, sx, rs⟩ := src_at g2 h2 r2 hs
    cases e
    show match (match ms[i]? with | some z => MIr.it (.one z) | none => MIr.stop) with | .stop => _ | .it m => _ | .bad => _
    cases hm : ms[i]? with
    | none =>
      have hl : xs.length ≤ i := by rw [relMs_len rs]; exact List.getElem?_eq_none_iff.mp hm
      revert sx
      cases kindM m with
      | l => exact fun sx => ⟨xs, sx, hl⟩
      | t => exact fun sx => ⟨xs, sx, hl⟩
    | some z =>
      obtain ⟨v, hv, rv⟩ := relMs_get rs hm
      revert sx
      cases kindM m with
      | l => exact fun sx => ⟨⟨xs, v, sx, hv⟩, fun x H'' ⟨e, hx⟩ => by subst e; exact ⟨F2, Ext.refl g2, (sq_inj (k := .l) hx sx hv) ▸ rv⟩⟩
      | t => exact fun sx => ⟨⟨xs, v, sx, hv⟩, fun x H'' ⟨e, hx⟩ => by subst e; exact ⟨F2, Ext.refl g2, (sq_inj (k := .t) hx sx hv) ▸ rv⟩⟩
theorem smi_seq {m : MT MV} (h : SM X e m) : SMI X tg e (fun E S => (m E S).bind fun r => hasSrc r.1 r.2 (leaf (itSeq r.1, r.2))) := ⟨_, pi_sq h.pe, fun σ H R ⟨as, F, E, S, g, hm, r, q⟩ => ⟨as, F, E, S, g, hm, r, Tree.all_mono (fun z k v as' F' H' x h' rv => by
  obtain ⟨ms, e, k⟩ := hasSrc_all k
  obtain ⟨a, xs, rfl, sx, rs⟩ := src_at x.good h' rv e
  exact ⟨kindM z.1, a, xs, rfl, sx, (show ∀ J as' F' H', ExtM as F H as' F' H' → HM X.K F' H' as' z.2 → YldM X.K as' F' J (itSeq z.1) → R J H' from k) _ as' F' H' x h' (yldM_seq rv)⟩) (Tree.all_bind.mp q)⟩⟩
end
end R

set_option Elab.async false
set_option linter.all false
set_option maxRecDepth 100000
set_option maxHeartbeats 2000000
/-! the mutable mirror: zip, enumerate, range; for; comprehensions; defs -/
namespace R
open PySem PySem.Spec PyProof.Rows L2
open Tree (leaf fail)
/-- the i-th of what m holds by now -/
inductive MSr where
  | it (m : MV) | stop | bad
def srcIt (m : MV) (i : Nat) (S : MSt) : MSr := match srcAt S m with
  | some ms => match ms[i]? with
    | some z => .it z
    | none => .stop
  | none => .bad
structure SrcIt (K : PySem.W.Frag) (F : Fz) (H : Hp) (as : List Addr) (k : SK) (a : Addr) (i : Nat) (r : MSr) : Prop where
  it : ∀ z, r = .it z → ∃ xs v, sq K k H a xs ∧ xs[i]? = some v ∧ RelM K F as v z
  stop : r = .stop → ∃ xs, sq K k H a xs ∧ xs.length ≤ i
theorem srcIt_of {K : PySem.W.Frag} {F : Fz} {H : Hp} {as : List Addr} {S : MSt} {a : Addr} {m : MV} (g : Good F H) (h : HM K F H as S) (r : RelM K F as (.ref a) m) (i : Nat) : SrcIt K F H as (kindM m) a i (srcIt m i S) := by
  unfold srcIt
  refine ⟨fun z e => ?_, fun e => ?_⟩
  · split at e
    · rename_i ms hs
      split at e
      · rename_i w hw
        cases e
        obtain ⟨a', xs, e', sx, rs⟩ := src_at g h r hs
        cases e'
        obtain ⟨v, hv, rv⟩ := relMs_get rs hw
        exact ⟨xs, v, sx, hv, rv⟩
      · cases e
    · cases e
  · split at e
    · rename_i ms hs
      split at e
      · cases e
      · rename_i hw
        obtain ⟨a', xs, e', sx, rs⟩ := src_at g h r hs
        cases e'
        exact ⟨xs, sx, by rw [relMs_len rs]; exact List.getElem?_eq_none_iff.mp hw⟩
    · cases e
def itEnum (m : MV) : MIt := fun i S => match srcIt m i S with
  | .it z => .it (.tup [.d (.int (i : Nat)), z])
  | .stop => .stop
  | .bad => .bad
def itZip (m n : MV) : MIt := fun i S => match srcIt m i S, srcIt n i S with
  | .it z, .it w => .it (.tup [z, w])
  | .stop, .it _ => .stop
  | .it _, .stop => .stop
  | .stop, .stop => .stop
  | _, _ => .bad
section
variable {K : PySem.W.Frag} {F' : Fz} {as' : List Addr} {a b : Addr} {m n : MV}
theorem yldM_enum (r : RelM K F' as' (.ref a) m) : YldM K as' F' (Iem K (kindM m) a) (itEnum m) := by
  intro i as2 F2 H2 S2 l g2 h2
  obtain ⟨l1, bs, rfl⟩ := l
  have q := srcIt_of g2 h2 (r.mono (bs := bs) l1) i
  unfold itEnum
  cases hs : srcIt m i S2 with
  | bad => exact True.intro
  | stop =>
    obtain ⟨xs, sx, hl⟩ := q.stop hs
    exact ⟨xs, sx, hl⟩
  | it z =>
    obtain ⟨xs, v, sx, hv, rv⟩ := q.it z hs
    refine ⟨⟨xs, v, sx, hv⟩, fun x H'' ⟨T, x', e1, nT, e2, f1⟩ => ?_⟩
    subst e1 e2
    have le := (Fz.le_add (F := F2) (o := .tup [.int (i : Nat), x']) (g2.free nT).1)
    refine ⟨F2.add T (.tup [.int (i : Nat), x']), Ext.addNew g2 nT, T, _, rfl, .of upd_same, .cons (show Rep K _ _ _ from .int _) (.cons ?_ .nil)⟩
    have rv := rv.mono (bs := []) le
    rw [List.append_nil] at rv
    exact (sq_inj f1 sx hv) ▸ rv
theorem yldM_zip (r : RelM K F' as' (.ref a) m) (r' : RelM K F' as' (.ref b) n) : YldM K as' F' (Izm K (kindM m) (kindM n) a b) (itZip m n) := by
  intro i as2 F2 H2 S2 l g2 h2
  obtain ⟨l1, bs, rfl⟩ := l
  have q := srcIt_of g2 h2 (r.mono (bs := bs) l1) i
  have q' := srcIt_of g2 h2 (r'.mono (bs := bs) l1) i
  unfold itZip
  cases hs : srcIt m i S2 with
  | bad => cases srcIt n i S2 <;> exact True.intro
  | stop =>
    obtain ⟨xs, sx, hl⟩ := q.stop hs
    cases hs' : srcIt n i S2 with
    | bad => exact True.intro
    | stop =>
      obtain ⟨ys, sy, hl'⟩ := q'.stop hs'
      exact ⟨xs, ys, sx, sy, by omega⟩
    | it w =>
      obtain ⟨ys, v, sy, hv, rv⟩ := q'.it w hs'
      exact ⟨xs, ys, sx, sy, by omega⟩
  | it z =>
    obtain ⟨xs, v, sx, hv, rv⟩ := q.it z hs
    cases hs' : srcIt n i S2 with
    | bad => exact True.intro
    | stop =>
      obtain ⟨ys, sy, hl'⟩ := q'.stop hs'
      exact ⟨xs, ys, sx, sy, by omega⟩
    | it w =>
      obtain ⟨ys, u, sy, hu, ru⟩ := q'.it w hs'
      refine ⟨⟨xs, ys, v, u, sx, sy, hv, hu⟩, fun x H'' ⟨T, x', y', e1, nT, e2, f1, f2⟩ => ?_⟩
      subst e1 e2
      have le := (Fz.le_add (F := F2) (o := .tup [x', y']) (g2.free nT).1)
      refine ⟨F2.add T (.tup [x', y']), Ext.addNew g2 nT, T, _, rfl, .of upd_same, .cons ?_ (.cons ?_ .nil)⟩
      · have rv := rv.mono (bs := []) le
        rw [List.append_nil] at rv
        exact (sq_inj f1 sx hv) ▸ rv
      · have ru := ru.mono (bs := []) le
        rw [List.append_nil] at ru
        exact (sq_inj f2 sy hu) ▸ ru
end
section
variable {X : Cx} {tg e e2 : Expr} {p pos : Pos} {elts : List Expr} {kk : Nat} {tpos : Pos} {m m' : MT MV}
theorem smi_enum (hg : Gl X "enumerate") (hm : X.mg "enumerate" = none) (ha : SM X e m) (hs : starEach [e] X.env = [(false, eval e X.env)] := by rfl) : SMI X (.Tuple elts kk tpos) (.Call (.Name "enumerate" p) [e] [] pos) (fun E S => (m E S).bind fun r => hasSrc r.1 r.2 (leaf (itEnum r.1, r.2))) := by
  refine ⟨_, pi_em hg hm (pa_cons ha.pe pa_nil hs) hs, fun σ H R ⟨as, F, E, S, g, hmm, r, q⟩ => ⟨as, F, E, S, g, hmm, r, Tree.all_mono (fun z k v as' F' H' x h' rv => ?_) (Tree.all_bind.mp q)⟩⟩
  obtain ⟨ms, e, k⟩ := hasSrc_all k
  obtain ⟨a, xs, rfl, sx, rs⟩ := src_at x.good h' rv e
  exact ⟨kindM z.1, a, xs, rfl, sx, (show ∀ J as' F' H', ExtM as F H as' F' H' → HM X.K F' H' as' z.2 → YldM X.K as' F' J (itEnum z.1) → R J H' from k) _ as' F' H' x h' (yldM_enum rv)⟩
theorem smi_zip (hg : Gl X "zip") (hm : X.mg "zip" = none) (ha : SM X e m) (hb : SM X e2 m') (hs : starEach [e, e2] X.env = (false, eval e X.env) :: starEach [e2] X.env := by rfl) (hs2 : starEach [e2] X.env = (false, eval e2 X.env) :: starEach [] X.env := by rfl)
    (hpl : (backTo pos (starEach [e2] X.env)).any (·.1) = false := by rfl) : SMI X (.Tuple elts kk tpos) (.Call (.Name "zip" p) [e, e2] [] pos) (fun E S => (m E S).bind fun r => (m' E r.2).bind fun s => hasSrc r.1 s.2 (hasSrc s.1 s.2 (leaf (itZip r.1 s.1, s.2)))) := by
  refine ⟨_, pi_zm hg hm (pa_cons ha.pe (pa_cons hb.pe pa_nil hs2) hs) hs hpl, fun σ H R ⟨as, F, E, S, g, hmm, r, q⟩ => ⟨as, F, E, S, g, hmm, r, Tree.all_mono (fun z k v as1 F1 H1 x1 h1 rv => ⟨as1, F1, E, z.2, x1.good, h1, r.ext x1, Tree.all_mono (fun w k v' as' F' H' x h' rw => ?_) (Tree.all_bind.mp k)⟩) (Tree.all_bind.mp q)⟩⟩
  obtain ⟨ms, e, k⟩ := hasSrc_all k
  obtain ⟨ns, e', k⟩ := hasSrc_all k
  have rv := rv.ext x
  obtain ⟨a, xs, rfl, sx, rs⟩ := src_at x.good h' rv e
  obtain ⟨b, ys, rfl, sy, rs'⟩ := src_at x.good h' rw e'
  exact ⟨a, b, kindM z.1, kindM w.1, xs, ys, rfl, sx, sy, (show ∀ J as' F' H', ExtM as F H as' F' H' → HM X.K F' H' as' w.2 → YldM X.K as' F' J (itZip z.1 w.1) → R J H' from k) _ as' F' H' (x1.trans x) h' (yldM_zip rv rw)⟩
def itRange (lo hi : Int) : MIt := fun i _ => if i < (hi - lo).toNat then .it (.one (.d (.int (lo + (i : Nat))))) else .stop
theorem yldM_range {K : PySem.W.Frag} {F' : Fz} {as' : List Addr} {lo hi : Int} : YldM K as' F' (Itr lo (hi - lo).toNat) (itRange lo hi) := by
  intro i as2 F2 H2 S2 l g2 h2
  unfold itRange
  by_cases h : i < (hi - lo).toNat
  · rw [if_pos h]
    exact ⟨h, fun x H'' ⟨e1, e2⟩ => by subst e1 e2; exact ⟨F2, Ext.refl g2, (show Rep K F2 _ _ from .int _)⟩⟩
  · rw [if_neg h]
    exact Nat.le_of_not_lt h
theorem smi_range1 (hg : Gl X "range") (hm : X.mg "range" = none) (ha : SM X e m) (hs : starEach [e] X.env = [(false, eval e X.env)] := by rfl) : SMI X tg (.Call (.Name "range" p) [e] [] pos) (fun E S => (m E S).bind fun r => match r.1 with
    | .d (.int j) => if rOk j = true then leaf (itRange 0 j, r.2) else fail
    | _ => fail) := by
  refine ⟨_, pi_range1 hg hm (pa_cons ha.pe pa_nil hs) hs, fun σ H R ⟨as, F, E, S, g, hmm, r, q⟩ => ⟨as, F, E, S, g, hmm, r, Tree.all_mono (fun z k v as' F' H' x h' rv => ?_) (Tree.all_bind.mp q)⟩⟩
  obtain ⟨z, S'⟩ := z
  cases z with
  | loc _ => exact False.elim k
  | d z =>
    cases z with
    | int j =>
      have rv : Rep X.K F' v (.int j) := rv
      cases rv
      have k : (if rOk j = true then leaf (itRange 0 j, S') else fail : Tree (MIt × MSt)).all _ := k
      by_cases h : rOk j = true
      · rw [if_pos h] at k
        obtain ⟨h1, h2⟩ := rOk_of h
        have y : YldM X.K as' F' (Itr 0 (j - 0).toNat) (itRange 0 j) := yldM_range
        rw [Int.sub_zero] at y
        exact ⟨j, rfl, h1, h2, (show ∀ J as' F' H', ExtM as F H as' F' H' → HM X.K F' H' as' S' → YldM X.K as' F' J (itRange 0 j) → R J H' from k) _ as' F' H' x h' y⟩
      · rw [if_neg h] at k
        exact k.elim
    | _ => exact False.elim k
end
/-! ### for -/
def msLoop (t : MIt) (g : MItm → MEn → Tree MEn) (m : MS) : Nat → Nat → MEn → MSt → Tree MOut
  | 0, _, _, _ => fail
  | f + 1, i, E, S => match t i S with
    | .bad => fail
    | .stop => leaf (.nx E S)
    | .it z => (g z E).bind fun E' => (m E' S).bind fun o => match o with
      | .nx E2 S2 => msLoop t g m f (i + 1) E2 S2
      | .ct E2 S2 => msLoop t g m f (i + 1) E2 S2
      | .bk E2 S2 => leaf (.nx E2 S2)
      | .rt v S2 => leaf (.rt v S2)
def msFor (mi : MT MIt) (g : MItm → MEn → Tree MEn) (m : MS) : MS := fun E S => (mi E S).bind fun r => msLoop r.1 g m 10000 0 E r.2
theorem ms_for {X : Cx} {tg iter : Expr} {body : List Stmt} {pos : Pos} {mi : MT MIt} {g : MItm → MEn → Tree MEn} {m : MS} (hp : PassesOwn (model X.prog X.w) X.A X.env X.xe) (hc : X.calm = true) {js : List Nat} (hi : SMI X tg iter mi) (hg : SMT X tg js g) (hb : SMSs X body m)
    (hs : ∀ x, foldedSetIterable iter X.env x = pure x := by intro _; rfl) : SMS X (.For tg iter body [] pos) (msFor mi g m) := by
  obtain ⟨wi, h1, h2⟩ := hi.pi
  refine ⟨PS.weak (ps_for hp hc h1 hg.pg hb.ps hs) fun D0 σ H ⟨as0, F0, H0, as, F, E, S, x, h, r, q⟩ => h2 σ H _ ?_⟩
  refine ⟨as, F, E, S, x.good, h, r, Tree.all_mono (fun z k J as1 F1 H1 x1 h1 y => ?_) (Tree.all_bind.mp q)⟩
  refine ⟨fun i n σ H => ∃ as2 F2 E S, ExtM as0 F0 H0 as2 F2 H ∧ LeM as1 F1 as2 F2 ∧ HM X.K F2 H as2 S ∧ RelME X.K F2 as2 σ E ∧ (msLoop z.1 g m n i E S).all (PostM X.K as0 F0 H0 as2 F2 D0), ⟨10000, as1, F1, E, z.2, x.trans x1, LeM.refl, h1, r.ext x1, Tree.all_mono (fun o h => h.le x1.leM) k⟩, ?_⟩
  rintro i n σ H ⟨as2, F2, E, S, x2, l2, h2, r2, q2⟩
  cases n with
  | zero => exact q2.elim
  | succ n =>
    have y := y i as2 F2 H S l2 x2.good h2
    unfold msLoop at q2
    cases ht : z.1 i S with
    | bad => rw [ht] at q2; exact q2.elim
    | stop =>
      rw [ht] at q2 y
      exact .inl ⟨y, (show PostM X.K as0 F0 H0 as2 F2 D0 (.nx E S) from q2) σ as2 F2 H x2 LeM.refl h2 r2⟩
    | it w =>
      rw [ht] at q2 y
      obtain ⟨go, yl⟩ := y
      refine .inr ⟨go, fun σ H => ∃ as2 F2 E S, ExtM as0 F0 H0 as2 F2 H ∧ LeM as1 F1 as2 F2 ∧ HM X.K F2 H as2 S ∧ RelME X.K F2 as2 σ E ∧ (msLoop z.1 g m n (i + 1) E S).all (PostM X.K as0 F0 H0 as2 F2 D0), fun σ' H' p => ⟨n, Nat.lt_succ_self n, p⟩, fun x H' yx => ?_⟩
      obtain ⟨F3, e3, rx⟩ := yl x H' yx
      have x3 : ExtM as2 F2 H as2 F3 H' := e3.toM
      refine ⟨as2, F3, E, S, w, e3.good, h2.ext e3, r2.ext x3, rx, Tree.all_mono (fun E' k σ' r' _ => ?_) (Tree.all_bind.mp q2)⟩
      refine ⟨as0, F0, H0, as2, F3, E', S, x2.trans x3, h2.ext e3, r', Tree.all_mono (fun o k => ?_) (Tree.all_bind.mp k)⟩
      have l3 : LeM as2 F2 as2 F3 := x3.leM
      cases o with
      | nx E2 S2 => exact fun σ4 as4 F4 H4 e4 l4 h4 r4 => ⟨as4, F4, E2, S2, e4, l2.trans (l3.trans l4), h4, r4, Tree.all_mono (fun o h => h.le (l3.trans l4)) k⟩
      | ct E2 S2 => exact fun σ4 as4 F4 H4 e4 l4 h4 r4 => ⟨as4, F4, E2, S2, e4, l2.trans (l3.trans l4), h4, r4, Tree.all_mono (fun o h => h.le (l3.trans l4)) k⟩
      | bk E2 S2 => exact fun σ4 as4 F4 H4 e4 l4 h4 r4 => (show PostM X.K as0 F0 H0 as2 F2 D0 (.nx E2 S2) from k) σ4 as4 F4 H4 e4 (l3.trans l4) h4 r4
      | rt d S2 => exact fun v as4 F4 H4 e4 l4 h4 r4 => (show PostM X.K as0 F0 H0 as2 F2 D0 (.rt d S2) from k) v as4 F4 H4 e4 (l3.trans l4) h4 r4
end R

set_option Elab.async false
set_option linter.all false
set_option maxRecDepth 100000
set_option maxHeartbeats 2000000
/-! the mutable mirror: comprehensions, defs -/
namespace R
open PySem PySem.Spec PyProof.Rows L2
open Tree (leaf fail)
section
variable {K : PySem.W.Frag} {F F' : Fz} {H H' : Hp} {as as' : List Addr} {S : MSt} {σ : L2.St} {E : MEn} {L : Addr}
/-- a list that is nobody's yet stays -/
theorem loose_ext {xs : List V} (e : ExtM as F H as' F' H') (h : H L = some (.lst xs)) (np : F.P L = none) (nt : ¬ F.T L) (na : L ∉ as) : H' L = some (.lst xs) ∧ F'.P L = none ∧ ¬ F'.T L ∧ L ∉ as' := by
  refine ⟨e.keep L _ h nt na fun ps z => (by cases z), ?_, fun t => ?_, fun m => ?_⟩
  · cases q : F'.P L with
    | none => rfl
    | some u =>
      rcases e.freshF L (.inl (by rw [q]; intro z; cases z)) with z | z | z | z
      · exact absurd np z
      · exact absurd z nt
      · exact absurd z na
      · exact (nt_live z h).elim
  · rcases e.freshF L (.inr t) with z | z | z | z
    · exact absurd np z
    · exact absurd z nt
    · exact absurd z na
    · exact (nt_live z h).elim
  · rcases e.freshA L m with z | z
    · exact absurd z na
    · exact (nt_live z h).elim
theorem good_write (g : Good F' H') {xs ys : List V} (np : F'.P L = none) (nt : ¬ F'.T L) (hl : H' L = some (.lst xs)) : Good F' (upd H' L (.lst ys)) := by
  refine ⟨fun b o q => ?_, fun b t => ?_, g.nt, tabs_stay g.tab fun b o q nl => ?_, fun f ob q qq ps bo sc cl pm c ctv z => ?_⟩
  · rw [upd_ne (fun z : b = L => by rw [z, np] at q; cases q)]; exact g.sub b o q
  · rw [upd_ne (fun z : b = L => nt (z ▸ t))]; exact g.pot b t
  · rw [upd_ne (fun z : b = L => by rw [z, hl] at q; cases q; exact nl _ rfl)]; exact q
  · have k := g.cod f ob q qq ps bo sc cl pm c ctv z
    rw [upd_ne (fun z2 : c = L => by rw [z2, hl] at k; exact (codeO_ext (Option.some.inj k)).1 _ rfl)]; exact k
theorem ExtM.writeOut (e : ExtM as F H as' F' H') {xs ys : List V} (np : F'.P L = none) (nt : ¬ F'.T L) (n0 : NT H L) (hl : H' L = some (.lst xs)) : ExtM as F H as' F' (upd H' L (.lst ys)) :=
  ⟨good_write e.good np nt hl, e.mono, e.monoT, e.pre, fun b o q t nb tb => by
    rw [upd_ne (fun z : b = L => by
      subst z
      obtain ⟨ps, y⟩ := n0 o q
      exact tb ps y)]
    exact e.keep b o q t nb tb, e.freshA, e.freshF⟩
theorem HM.writeOut (h : HM K F' H' as' S) {ys : List V} (na : L ∉ as') : HM K F' (upd H' L (.lst ys)) as' S := by
  have ne : ∀ {b : Addr}, b ∈ as' → b ≠ L := fun {b} m z => na (z ▸ m)
  refine ⟨h.len, h.nd, fun b m => by rw [upd_ne (ne m)]; exact h.live b m, h.nT, fun n o b hs hb => ?_⟩
  have k := h.obj n o b hs hb
  cases o with
  | off => exact True.intro
  | lst zs =>
    obtain ⟨k1, k2, vs, k3, k4⟩ := k
    exact ⟨k1, k2, vs, by rw [upd_ne (ne (List.mem_of_getElem? hb))]; exact k3, k4⟩
  | ins C zs =>
    obtain ⟨k1, k2, dx, vs, k3, k4⟩ := k
    exact ⟨k1, k2, dx, vs, by rw [upd_ne (ne (List.mem_of_getElem? hb))]; exact k3, k4⟩
  | dK zs =>
    obtain ⟨k1, k2, vs, k3, k4⟩ := k
    exact ⟨k1, k2, vs, by rw [upd_ne (ne (List.mem_of_getElem? hb))]; exact k3, k4⟩
  | dT zs =>
    obtain ⟨k1, k2, vs, k3, k4⟩ := k
    exact ⟨k1, k2, vs, by rw [upd_ne (ne (List.mem_of_getElem? hb))]; exact k3, k4⟩
def wipeM (E : MEn) : List Nat → MEn
  | [] => E
  | v :: vs => (wipeM E vs).set v none
theorem RelME.drop (r : RelME K F as σ E) (i : Nat) : RelME K F as (σ.set i none) (E.set i none) := ⟨by simp [r.len], fun j y hj => by
  by_cases e : i = j
  · subst e
    by_cases hl : i < E.length
    · rw [List.getElem?_set_self hl] at hj; cases hj
    · rw [List.getElem?_eq_none (by simpa using hl)] at hj; cases hj
  · rw [List.getElem?_set_ne e] at hj ⊢; exact r.val j y hj⟩
theorem RelME.wipe (r : RelME K F as σ E) : ∀ vs : List Nat, RelME K F as (L2.wipe σ vs) (wipeM E vs)
  | [] => r
  | v :: vs => (RelME.wipe r vs).drop v
theorem relMs_append {vs ws : List V} {xs ys : List MV} (h : RelMs K F as vs xs) (h' : RelMs K F as ws ys) : RelMs K F as (vs ++ ws) (xs ++ ys) := by
  induction h with
  | nil => exact h'
  | cons r _ ih => exact .cons r ih
end
/-! ### comprehensions -/
structure SMTst (X : Cx) (ifs : List Expr) (m : MT Bool) : Prop where
  pts : PTs X ifs (tMB X.K m)
def mYes : MT Bool := fun _ S => leaf (true, S)
def lcLoopM (t : MIt) (g : MItm → MEn → Tree MEn) (mt : MT Bool) (me : MT MV) (E : MEn) : Nat → Nat → MSt → Tree (List MV × MSt)
  | 0, _, _ => fail
  | f + 1, i, S => match t i S with
    | .bad => fail
    | .stop => leaf ([], S)
    | .it z => (g z E).bind fun E' => (mt E' S).bind fun b => if b.1 = true then (me E' b.2).bind fun y => (lcLoopM t g mt me E f (i + 1) y.2).bind fun r => leaf (y.1 :: r.1, r.2) else lcLoopM t g mt me E f (i + 1) b.2
def meLc (mi : MT MIt) (vs : List Nat) (g : MItm → MEn → Tree MEn) (mt : MT Bool) (me : MT MV) : MT MV := fun E S => (mi E S).bind fun r => (lcLoopM r.1 g mt me (wipeM E vs) 10000 0 r.2).bind fun s => leaf (.loc s.2.length, s.2 ++ [.lst s.1])
section
variable {X : Cx}
theorem smt_nil : SMTst X [] mYes := ⟨PTs.weak pts_nil fun σ H Q ⟨as, F, E, S, g, h, r, q⟩ => (show ∀ as' F' H', ExtM as F H as' F' H' → HM X.K F' H' as' S → Q true H' from q) as F H (ExtM.refl g) h⟩
theorem smt_one {c : Expr} {m : MT Bool} (h : SMB X c m) : SMTst X [c] m := ⟨pts_one h.pt⟩
theorem lcM_w {K : PySem.W.Frag} {wi : TI} {mi : MT MIt} {js vs : List Nat} {g : MItm → MEn → Tree MEn} {mt : MT Bool} {me : MT MV} {σ : L2.St} {H : Hp} {Q : VK}
    (h2 : ∀ σ H R, (∃ as F E S, Good F H ∧ HM K F H as S ∧ RelME K F as σ E ∧ (mi E S).all fun r => ∀ J as' F' H', ExtM as F H as' F' H' → HM K F' H' as' r.2 → YldM K as' F' J r.1 → R J H') → wi σ H R) (hj : ∀ j ∈ js, j ∈ vs)
    (h : tM K (meLc mi vs g mt me) σ H Q) : tLc wi (tMT K js g) (tMB K mt) (tM K me) vs σ H Q := by
  obtain ⟨as, F, E, S, gd, hm, rl, q⟩ := h
  refine h2 σ H _ ⟨as, F, E, S, gd, hm, rl, Tree.all_mono (fun z k J as1 F1 H1 x1 h1 y => ?_) (Tree.all_bind.mp q)⟩
  intro L hL
  have g1 : Good F1 (upd H1 L (.lst [])) := x1.good.new hL
  have n1 := x1.good.free hL
  have e2 : Ext F1 H1 F1 (upd H1 L (.lst [])) := Ext.new x1.good hL
  have na1 : L ∉ as1 := fun m => by
    obtain ⟨o, hx, mu⟩ := h1.live L m
    rw [hL] at hx; cases hx
  have h0 : NT H L := by
    intro o ho
    by_cases t : F.T L
    · obtain ⟨p, q, w⟩ := pot_lst x1.good (x1.monoT L t)
      rw [hL] at w; cases w
    · by_cases nb : L ∈ as
      · exact absurd (by obtain ⟨bs, e⟩ := x1.pre; rw [e]; exact List.mem_append_left _ nb) na1
      · by_cases tb : ∃ ps, o = .tbl ps
        · exact tb
        · have := x1.keep L o ho t nb fun ps z => tb ⟨ps, z⟩
          rw [hL] at this; cases this
  refine ⟨fun i n H' => ∃ as2 F' S' acc xs, ExtM as F H as2 F' H' ∧ LeM as1 F1 as2 F' ∧ HM K F' H' as2 S' ∧ H' L = some (.lst xs) ∧ F'.P L = none ∧ ¬ F'.T L ∧ L ∉ as2 ∧ RelMs K F' as2 xs acc ∧ acc.length ≤ i ∧ i + n ≤ 10000 ∧
    ((lcLoopM z.1 g mt me (wipeM E vs) n i S').all fun r => ∀ a xs as3 F'' H'', ExtM as F H as3 F'' H'' → HM K F'' H'' as3 r.2 → H'' a = some (.lst xs) → F''.P a = none → ¬ F''.T a → a ∉ as3 → NT H a → RelMs K F'' as3 xs (acc ++ r.1) → Q (.ref a) H''),
    ⟨10000, as1, F1, z.2, [], [], x1.trans e2.toM, LeM.refl, h1.ext e2, upd_same, n1.1, n1.2, na1, .nil, Nat.zero_le _, Nat.le_refl _, Tree.all_mono (fun s k a xs as3 F3 H3 x3 h3 ha np nt na n0 rs => ?_) (Tree.all_bind.mp k)⟩, ?_⟩
  · obtain ⟨y1, y2, y3⟩ := newLoc x3 h3 ha np nt n0 na rs
    exact (show ∀ v as' F' H', ExtM as F H as' F' H' → HM K F' H' as' (s.2 ++ [.lst s.1]) → RelM K F' as' v (.loc s.2.length) → Q v H' from k) _ _ _ _ y1 y2 y3
  rintro i n H' ⟨as2, F', S', acc, xs, x2, l2, hm2, hL', np, nt, na, ra, hai, hin, q'⟩
  cases n with
  | zero => exact q'.elim
  | succ n =>
    have yy := y i as2 F' H' S' l2 x2.good hm2
    unfold lcLoopM at q'
    cases ht : z.1 i S' with
    | bad => rw [ht] at q'; exact q'.elim
    | stop =>
      rw [ht] at q' yy
      exact .inl ⟨yy, (show ∀ a xs as3 F'' H'', ExtM as F H as3 F'' H'' → HM K F'' H'' as3 S' → H'' a = some (.lst xs) → F''.P a = none → ¬ F''.T a → a ∉ as3 → NT H a → RelMs K F'' as3 xs (acc ++ []) → Q (.ref a) H'' from q') L xs as2 F' H' x2 hm2 hL' np nt na h0 (by rw [List.append_nil]; exact ra)⟩
    | it w =>
      rw [ht] at q' yy
      obtain ⟨go, yl⟩ := yy
      refine .inr ⟨go, fun H3 => ∃ as2 F' S' acc xs, ExtM as F H as2 F' H3 ∧ LeM as1 F1 as2 F' ∧ HM K F' H3 as2 S' ∧ H3 L = some (.lst xs) ∧ F'.P L = none ∧ ¬ F'.T L ∧ L ∉ as2 ∧ RelMs K F' as2 xs acc ∧ acc.length ≤ i + 1 ∧ i + 1 + n ≤ 10000 ∧
        ((lcLoopM z.1 g mt me (wipeM E vs) n (i + 1) S').all fun r => ∀ a xs as3 F'' H'', ExtM as F H as3 F'' H'' → HM K F'' H'' as3 r.2 → H'' a = some (.lst xs) → F''.P a = none → ¬ F''.T a → a ∉ as3 → NT H a → RelMs K F'' as3 xs (acc ++ r.1) → Q (.ref a) H''),
        fun H3 p => ⟨n, Nat.lt_succ_self n, p⟩, fun x H3 yx => ?_⟩
      obtain ⟨F3, e3, rx⟩ := yl x H3 yx
      have x3 : ExtM as2 F' H' as2 F3 H3 := e3.toM
      obtain ⟨hL3, np3, nt3, na3⟩ := loose_ext x3 hL' np nt na
      have rE : RelME K F3 as2 (L2.wipe σ vs) (wipeM E vs) := by
        have := ((rl.ext x1).wipe vs)
        obtain ⟨l2a, bs, rfl⟩ := l2
        exact ⟨this.len, fun i m h => by
          obtain ⟨v, k1, k2⟩ := this.val i m h
          exact ⟨v, k1, (k2.mono l2a).ext x3⟩⟩
      refine ⟨as2, F3, wipeM E vs, S', w, e3.good, hm2.ext e3, rE, rx, Tree.all_mono (fun E' k σ' r' b' => ?_) (Tree.all_bind.mp q')⟩
      have hw : L2.wipe σ' vs = L2.wipe σ vs := by
        rw [wipe_but (b'.mono hj)]
        exact wipe_wipe
      refine ⟨hw, as2, F3, E', S', e3.good, hm2.ext e3, r', Tree.all_mono (fun b k as4 F4 H4 x4 h4 => ?_) (Tree.all_bind.mp k)⟩
      obtain ⟨hL4, np4, nt4, na4⟩ := loose_ext x4 hL3 np3 nt3 na3
      obtain ⟨b, S4⟩ := b
      cases b with
      | false =>
        have k : (lcLoopM z.1 g mt me (wipeM E vs) n (i + 1) S4).all _ := k
        rw [if_neg Bool.false_ne_true]
        exact ⟨as4, F4, S4, acc, xs, (x2.trans x3).trans x4, l2.trans (x3.leM.trans x4.leM), h4, hL4, np4, nt4, na4, (ra.ext x3).ext x4, by omega, by omega, k⟩
      | true =>
        have k : ((me E' S4).bind fun y => (lcLoopM z.1 g mt me (wipeM E vs) n (i + 1) y.2).bind fun r => leaf (y.1 :: r.1, r.2)).all _ := k
        rw [if_pos rfl]
        refine ⟨as4, F4, E', S4, x4.good, h4, r'.ext x4, Tree.all_mono (fun d k y as5 F5 H5 x5 h5 ry => ?_) (Tree.all_bind.mp k)⟩
        obtain ⟨hL5, np5, nt5, na5⟩ := loose_ext x5 hL4 np4 nt4 na4
        have ra5 := ((ra.ext x3).ext x4).ext x5
        refine ⟨xs, hL5, by rw [relMs_len ra5]; exact Nat.lt_of_le_of_lt (show acc.length ≤ 10000 by omega) (by decide), as5, F5, d.2, acc ++ [d.1], xs ++ [y], (((x2.trans x3).trans x4).trans x5).writeOut np5 nt5 h0 hL5, l2.trans (x3.leM.trans (x4.leM.trans x5.leM)), h5.writeOut na5, upd_same, np5, nt5, na5, relMs_append ra5 (.cons ry .nil), by rw [List.length_append]; show acc.length + 1 ≤ i + 1; omega, by omega, ?_⟩
        refine Tree.all_mono (fun r k => ?_) (Tree.all_bind.mp k)
        intro a zs as6 F'' H'' e'' z0 z1 z2 z3 z4 z5 z6
        exact k a zs as6 F'' H'' e'' z0 z1 z2 z3 z4 z5 (by rw [List.append_assoc] at z6; exact z6)
/-- [elt for tg in iter if ..] -/
theorem sm_lc {elt tg iter : Expr} {ifs : List Expr} {scope : Scope} {own : List (Str × Nat)} {pos : Pos} {mi : MT MIt} {js : List Nat} {g : MItm → MEn → Tree MEn} {mt : MT Bool} {me : MT MV}
    (hc : X.calm = true) (hN : X.N.Nodup) (hi : SMI X tg iter mi) (ok : BlkOk X.N X.env.scope scope own)
    (hg : ∀ (s : Shared) (H : Hp) (C : Addr) (cl : List (Str × Addr)) (fp : List Addr), SMT (X.blk s H scope (compEnvC scope cl C X.env) fp) tg js g) (ht : ∀ (s : Shared) (H : Hp) (C : Addr) (cl : List (Str × Addr)) (fp : List Addr), SMTst (X.blk s H scope (compEnvC scope cl C X.env) fp) ifs mt)
    (he : ∀ (s : Shared) (H : Hp) (C : Addr) (cl : List (Str × Addr)) (fp : List Addr), SM (X.blk s H scope (compEnvC scope cl C X.env) fp) elt me) (hj : ∀ j ∈ js, j ∈ own.map (·.2)) (hs : ∀ x, foldedSetIterable iter X.env x = pure x := by intro _; rfl) :
    SM X (.ListComp elt [⟨tg, iter, ifs, 0⟩] scope pos) (meLc mi (own.map (·.2)) g mt me) := by
  obtain ⟨wi, h1, h2⟩ := hi.pi
  exact ⟨PE.weak (pe_lc hc hN h1 ok (fun s H C cl fp => (hg s H C cl fp).pg) (fun s H C cl fp => (ht s H C cl fp).pts) (fun s H C cl fp => (he s H C cl fp).pe) hs) fun σ H Q h => lcM_w h2 hj h⟩
/-- name = [..] on one line -/
theorem psm_lc {i : Nat} {y : Str} {py : Pos} {elt tg iter : Expr} {ifs : List Expr} {scope : Scope} {own : List (Str × Nat)} {pos spos : Pos} {mi : MT MIt} {js : List Nat} {g : MItm → MEn → Tree MEn} {mt : MT Bool} {me : MT MV}
    (hc : X.calm = true) (hN : X.N.Nodup) (hy : X.N[i]? = some y) (hyl : X.env.scope.names.lookup y = some .local)
    (hsw : swapsWith (.ListComp elt [⟨tg, iter, ifs, 0⟩] scope pos) (some (.Name y py)) spos.line X.env = pure true) (hi : SMI X tg iter mi) (ok : BlkOk X.N X.env.scope scope own)
    (hg : ∀ (s : Shared) (H : Hp) (C : Addr) (cl : List (Str × Addr)) (fp : List Addr), SMT (X.blk s H scope (compEnvC scope cl C X.env) fp) tg js g) (ht : ∀ (s : Shared) (H : Hp) (C : Addr) (cl : List (Str × Addr)) (fp : List Addr), SMTst (X.blk s H scope (compEnvC scope cl C X.env) fp) ifs mt)
    (he : ∀ (s : Shared) (H : Hp) (C : Addr) (cl : List (Str × Addr)) (fp : List Addr), SM (X.blk s H scope (compEnvC scope cl C X.env) fp) elt me) (hj : ∀ j ∈ js, j ∈ own.map (·.2)) (hs : ∀ x, foldedSetIterable iter X.env x = pure x := by intro _; rfl) :
    ∃ te, PS X (.Assign [.Name y py] (.ListComp elt [⟨tg, iter, ifs, 0⟩] scope pos) spos) (tAsg te (gName i)) ∧ ∀ σ H Q, tM X.K (meLc mi (own.map (·.2)) g mt me) σ H Q → te σ H Q := by
  obtain ⟨wi, h1, h2⟩ := hi.pi
  exact ⟨_, ps_setLc hc hN hy hyl hsw h1 ok (fun s H C cl fp => (hg s H C cl fp).pg) (fun s H C cl fp => (ht s H C cl fp).pts) (fun s H C cl fp => (he s H C cl fp).pe) hs, fun σ H Q h => lcM_w h2 hj h⟩
/-- name = e, with what the rule for the statement asks -/
theorem ms_set {st : Stmt} {i : Nat} {me : MT MV} (h : ∃ te, PS X st (tAsg te (gName i)) ∧ ∀ σ H Q, tM X.K me σ H Q → te σ H Q) : SMS X st (msAsg me (mgPut i)) := by
  obtain ⟨te, h1, h2⟩ := h
  exact ms_asg h1 h2 fun v σ H Q ⟨as, F, E, S, m, g, h, r, p, q⟩ => (show ∀ σ' as' F' H', ExtM as F H as' F' H' → HM X.K F' H' as' S → RelME X.K F' as' σ' (E.set i (some m)) → Q σ' H' from q) _ as F H (ExtM.refl g) h (r.put i p)
/-- never reached -/
theorem ms_fail {st : Stmt} : SMS X st (fun _ _ => fail) := ⟨⟨fun pins s σ H D I h => by
  obtain ⟨as0, F0, H0, as, F, E, S, x, h, r, q⟩ := h
  exact False.elim q⟩⟩
theorem ss_fail {st : Stmt} : SS X st (fun _ => fail) := ⟨⟨fun pins s σ H D I h => by
  obtain ⟨F0, H0, F, E, e, r, q⟩ := h
  exact False.elim q⟩⟩
end
end R

set_option Elab.async false
set_option linter.all false
set_option maxRecDepth 100000
set_option maxHeartbeats 2000000
/-! the mutable mirror: defs, calls, append -/
namespace R
open PySem PySem.Spec PyProof.Rows L2
open Tree (leaf fail)
def MEn.start (n : Nat) (ms : List MV) : MEn := ms.map (fun m => some m) ++ List.replicate (n - ms.length) none
def mDefM (np n : Nat) (m : MS) : List MV → MSt → Tree (MV × MSt) := fun ms S => if ms.length = np then (m (MEn.start n ms) S).bind fun o => match o with
    | .nx _ S' => leaf (.d .non, S')
    | .rt v S' => leaf (v, S')
    | _ => fail
  else fail
theorem relM_start {K : PySem.W.Frag} {F : Fz} {as : List Addr} {vs : List V} {ms : List MV} (r : RelMs K F as vs ms) (N : List Str) : RelME K F as (L2.start N vs) (MEn.start N.length ms) where
  len := by unfold L2.start MEn.start; simp [relMs_len r]
  val := fun i m h => by
    unfold MEn.start at h
    unfold L2.start
    by_cases hi : i < ms.length
    · rw [List.getElem?_append_left (by simpa using hi), List.getElem?_map] at h
      cases e : ms[i]? with
      | none => rw [e] at h; cases h
      | some d' =>
        rw [e] at h; cases h
        obtain ⟨v, h1, h2⟩ := relMs_get r e
        refine ⟨v, ?_, h2⟩
        rw [List.getElem?_append_left (by rw [List.length_map, relMs_len r]; exact hi), List.getElem?_map, h1]
        rfl
    · rw [List.getElem?_append_right (by simpa using hi), List.getElem?_replicate] at h
      split at h <;> cases h
/-- what a def promises that may change the lists it is given -/
def spM (K : PySem.W.Frag) (f : List MV → MSt → Tree (MV × MSt)) : Sp := fun vs H Q _ => ∃ as F S ms, Good F H ∧ HM K F H as S ∧ RelMs K F as vs ms ∧ (f ms S).all fun r => ∀ v as' F' H', ExtM as F H as' F' H' → HM K F' H' as' r.2 → RelM K F' as' v r.1 → Q v H'
theorem spM_len {K : PySem.W.Frag} {np n : Nat} {m : MS} : ∀ vs H Q E, spM K (mDefM np n m) vs H Q E → vs.length = np := fun vs H Q E ⟨as, F, S, ms, g, h, r, q⟩ => by
  unfold mDefM at q
  split at q
  · rename_i h; rw [relMs_len r]; exact h
  · exact q.elim
section
variable {P : Program} {w : World} {K : PySem.W.Frag} {mg : Str → Option Value} {base : Heap}
theorem def_okM {x qual : Str} {st : Stmt} {f : Addr} {fd : FuncData} {N ps : List Str} {k : Nat} {m : MS} (np n : Nat) (F : Fun K x qual st f fd) (S : FnScope N ps (defScope st)) (hn : N.length = n) (hp : ps.length = np)
    (hbody : ∀ (cdv : Value) (A : Around) (outer : List Env) (s : Shared) (H : Hp) (E : XK), Room k (A.deeper (envOfC qual (defScope st) s.heap.objs.size f cdv)) →
      SMSs (cxOf CX0 P w K mg base N qual (defScope st) f cdv A outer s H E).nox (defBody st) m) : FnOk P w K mg base CX0 (k + 1) f fd ps (spM K (mDefM np n m)) := by
  subst hn hp
  refine F.ok S (fun vs H Q E h => spM_len vs H Q E h) (fun cdv A outer s H vs Q E hr h => ?_)
  obtain ⟨as, F, S, ms, g, h, r, q⟩ := h
  refine ⟨_, (hbody cdv A outer s H E hr).ps, as, F, H, as, F, MEn.start N.length ms, S, ExtM.refl g, h, relM_start r N, ?_⟩
  unfold mDefM at q
  split at q
  · refine Tree.all_mono (fun o k => ?_) (Tree.all_bind.mp q)
    cases o with
    | nx E S' => exact fun σ' as' F' H' e l h' r => (show ∀ v as' F' H', ExtM as F H as' F' H' → HM K F' H' as' S' → RelM K F' as' v (.d .non) → Q v H' from k) .non as' F' H' e h' .non
    | rt d S' => exact fun v as' F' H' e l h' r => (show ∀ v as' F' H', ExtM as F H as' F' H' → HM K F' H' as' S' → RelM K F' as' v d → Q v H' from k) v as' F' H' e h' r
    | bk E S => exact False.elim k
    | ct E S => exact False.elim k
  · exact q.elim
/-- .. seen from the still world -/
def stillM (f : List MV → MSt → Tree (MV × MSt)) : List D → Tree D := fun ds => (f (ds.map .d) []).bind fun r => match deepD r.2 12 r.1 with
  | some d => leaf d
  | none => fail
theorem spM_still {f : List MV → MSt → Tree (MV × MSt)} {vs : List V} {H : Hp} {Q : VK} {E : XK} (h : spF K (stillM f) vs H Q E) : spM K f vs H Q E := by
  obtain ⟨F, ds, g, r, q⟩ := h
  refine ⟨[], F, [], ds.map .d, g, ⟨rfl, .nil, fun a h => (by cases h), fun a h => (by cases h), fun n o a h => by simp at h⟩, relMs_d r, Tree.all_mono (fun z k v as' F' H' x h' rv => ?_) (Tree.all_bind.mp q)⟩
  cases hd : deepD z.2 12 z.1 with
  | none => rw [hd] at k; exact k.elim
  | some d =>
    rw [hd] at k
    have hg := frz_good x.good h'
    refine (show ∀ v F' H', Ext F H F' H' → Rep K F' v d → Q v H' from k) v (frzF z.2 as' H' F') H' ⟨hg.1, x.mono.trans hg.2.p, fun a t => hg.2.t a (x.monoT a t), fun a o q nt ntb => x.keep a o q nt (by simp) ntb, fun a q => ?_⟩ (deep_rep x.good h' 12 z.1 v d rv hd)
    by_cases m : a ∈ ownA z.2 as'
    · obtain ⟨n, xs, h1, h2⟩ := ownA_mem.mp m
      rcases x.freshA a (List.mem_of_getElem? h2) with w | w
      · cases w
      · exact .inr (.inr w)
    · have q : F'.P a ≠ none ∨ F'.T a := q.elim (fun w => .inl fun y => w (by
        show (plusF _ F').P a = none
        rw [plus_none (by show (if a ∈ ownA z.2 as' then H' a else none) = none; rw [if_neg m])]
        exact y)) .inr
      rcases x.freshF a q with w | w | w | w
      · exact .inl w
      · exact .inr (.inl w)
      · cases w
      · exact .inr (.inr w)
theorem FnOk.ofM {k : Nat} {f : Addr} {fd : FuncData} {ps : List Str} {fn : List MV → MSt → Tree (MV × MSt)} (F : FnOk P w K mg base CX0 k f fd ps (spM K fn)) : FnOk P w K mg base CX0 k f fd ps (spF K (stillM fn)) :=
  ⟨fun vs H Q E h => F.len vs H Q E (spM_still h), fun A st s H args zs vs Q E hr e0 hb r h => F.run A st s H args zs vs Q E hr e0 hb r (spM_still h)⟩
end
section
variable {X : Cx} {k : Nat} {f : Addr} {fd : FuncData} {ps : List Str} {fn : List MV → MSt → Tree (MV × MSt)} {x : Str} {p pos : Pos} {e : Expr} {es : List Expr} {ma : MT (List MV)}
def mcall (fn : List MV → MSt → Tree (MV × MSt)) (ma : MT (List MV)) : MT MV := fun E S => (ma E S).bind fun r => fn r.1 r.2
theorem sm_call (F : FnOk X.prog X.w X.K X.mg X.base CX0 k f fd ps (spM X.K fn)) (hr : Room k X.A) (hg : Gl X x) (hm : X.mg x = some (.ref f)) (hk : PySem.W.keepIn X.K (.ref f) = true) (hb : Binds X.K fd ps [])
    (ha : SMA X (e :: es) ma) (hdb : (x == ("__debug__" : Str)) = false := by decide) (he : starEach (e :: es) X.env = (false, eval e X.env) :: starEach es X.env := by rfl) (hpl : (backTo pos (starEach es X.env)).any (·.1) = false := by rfl) :
    SM X (.Call (.Name x p) (e :: es) [] pos) (mcall fn ma) := by
  refine ⟨PE.weak (pe_call F hr hg hm hk hb .nil pass0 ha.pa hdb he hpl) fun σ H Q ⟨as, F, E, S, g, h, rl, q⟩ => ?_⟩
  refine ⟨as, F, E, S, g, h, rl, Tree.all_mono (fun z k vs as1 F1 H1 x1 h1 p1 => ?_) (Tree.all_bind.mp q)⟩
  show spM X.K fn (vs ++ []) H1 Q E0
  rw [List.append_nil]
  exact ⟨as1, F1, z.2, z.1, x1.good, h1, p1, Tree.all_mono (fun y ky w as2 F2 H2 x2 h2 rz => ky w as2 F2 H2 (x1.trans x2) h2 rz) k⟩
structure CalMu (P : Program) (w : World) (K : PySem.W.Frag) (mg : Str → Option Value) (base : Heap) (k : Nat) (x : Str) (fn : List MV → MSt → Tree (MV × MSt)) : Prop where
  ex : ∃ (f : Addr) (fd : FuncData) (ps : List Str), FnOk P w K mg base CX0 k f fd ps (spM K fn) ∧ mg x = some (.ref f) ∧ PySem.W.keepIn K (.ref f) = true ∧ Binds K fd ps []
theorem sm_c {j : Nat} (c : CalMu X.prog X.w X.K X.mg X.base k x fn) (hr : Room j X.A) (hk : k ≤ j) (hg : Gl X x) (ha : SMA X (e :: es) ma) (hdb : (x == ("__debug__" : Str)) = false := by decide)
    (he : starEach (e :: es) X.env = (false, eval e X.env) :: starEach es X.env := by rfl) (hpl : (backTo pos (starEach es X.env)).any (·.1) = false := by rfl) : SM X (.Call (.Name x p) (e :: es) [] pos) (mcall fn ma) := by
  obtain ⟨f, fd, ps, F, hm, kp, b⟩ := c.ex
  exact sm_call F (hr.mono hk) hg hm kp b ha hdb he hpl
theorem calM_mk {P : Program} {w : World} {K : PySem.W.Frag} {mg : Str → Option Value} {base : Heap} {x : Str} {st : Stmt} {fn : List MV → MSt → Tree (MV × MSt)} {k : Nat} {ps : List Str} (a : At K mg x st) (c : ∀ f fd, Fun K x x st f fd → FnOk P w K mg base CX0 k f fd ps (spM K fn))
    (hb : ∀ (kV doc pm : Value) (an : Option Addr) (cdv ct : Value) (us : List Value), us.length = ps.length → bindArgs (PySem.W.fnOf x x (defArgs st) (defBody st) (defScope st) .none kV doc pm an cdv ct) ⟨us, []⟩ = pure (ps.zip us)) : CalMu P w K mg base k x fn := by
  obtain ⟨f, fd, F, hm⟩ := a.ex
  exact ⟨f, fd, ps, c f fd F, hm, F.kp, F.binds hb⟩
theorem CalMu.r {P : Program} {w : World} {K : PySem.W.Frag} {mg : Str → Option Value} {base : Heap} (c : CalMu P w K mg base k x fn) : CalR P w K mg base k x (stillM fn) := by
  obtain ⟨f, fd, ps, F, hm, kp, b⟩ := c.ex
  exact ⟨f, fd, ps, FnOk.ofM F, hm, kp, b⟩
/-- o.append(e), o a list of one's own -/
def meApp (mo me : MT MV) : MT MV := fun E S => (mo E S).bind fun r => match r.1 with
  | .loc n => match locAt r.2 n with
    | some _ => (me E r.2).bind fun s => match locAt s.2 n with
      | some xs => if xs.length < sizeLine then leaf (.d .non, s.2.set n (.lst (xs ++ [s.1]))) else fail
      | none => fail
    | none => fail
  | _ => fail
theorem sm_app {o : Expr} {apos cpos : Pos} {mo me : MT MV} (ho : SM X o mo) (he : SM X e me)
    (hb : attributeBase o "append" X.env (eval o X.env) = eval o X.env := by rfl) (hl : (apos.endLine == cpos.line) = true := by rfl)
    (hfew : ((backTo cpos (starEach [e] X.env)).all (fun x => !x.1) && (backToKw cpos (keywordEach [] X.env)).all (fun x => x.1.isSome) && decide (([e] : List Expr).length + ([] : List Keyword).length + (if ([] : List Keyword).isEmpty then 0 else 1) < 30)) = true := by rfl)
    (hs : starEach [e] X.env = (false, eval e X.env) :: starEach [] X.env := by rfl) :
    SM X (.Call (.Attribute o "append" apos) [e] [] cpos) (meApp mo me) := by
  refine ⟨PE.weak (pe_bm PySem.F.plainAttrs_list PySem.F.slot_list_append PySem.F.type_list_append mt_append ho.pe (pa_cons he.pe pa_nil hs) hb hfew hl hs (by rfl)) fun σ H Q ⟨as, F, E, S, g, h, r, q⟩ => ?_⟩
  refine ⟨as, F, E, S, g, h, r, Tree.all_mono (fun z k v as1 F1 H1 x1 h1 rv => ?_) (Tree.all_bind.mp q)⟩
  obtain ⟨z, S1⟩ := z
  cases z with
  | d _ => exact False.elim k
  | loc n =>
    obtain ⟨a, ha, rfl⟩ := rv
    cases hs1 : locAt S1 n with
    | none =>
      have k : (match locAt S1 n with
        | some _ => (me E S1).bind fun s => match locAt s.2 n with
          | some xs => if xs.length < sizeLine then leaf (MV.d .non, s.2.set n (.lst (xs ++ [s.1]))) else fail
          | none => fail
        | none => fail : Tree (MV × MSt)).all _ := k
      rw [hs1] at k; exact k.elim
    | some xs0 =>
      have k : (match locAt S1 n with
        | some _ => (me E S1).bind fun s => match locAt s.2 n with
          | some xs => if xs.length < sizeLine then leaf (MV.d .non, s.2.set n (.lst (xs ++ [s.1]))) else fail
          | none => fail
        | none => fail : Tree (MV × MSt)).all _ := k
      rw [hs1] at k
      obtain ⟨_, _, vs0, hv0, _⟩ := h1.obj n _ a (locAt_of hs1) ha
      refine ⟨.inl ⟨rfl, vs0, .of hv0⟩, as1, F1, E, S1, x1.good, h1, r.ext x1, Tree.all_mono (fun y k w as2 F2 H2 x2 h2 rw_ => ?_) (Tree.all_bind.mp k)⟩
      cases hs2 : locAt y.2 n with
      | none => rw [hs2] at k; exact k.elim
      | some xs =>
        rw [hs2] at k
        have hA : as2[n]? = some a := by
          obtain ⟨bs, rfl⟩ := x2.pre
          rw [List.getElem?_append_left (List.getElem?_eq_some_iff.mp ha).1]; exact ha
        obtain ⟨_, _, vs, hv, rs⟩ := h2.obj n _ a (locAt_of hs2) hA
        by_cases hl : xs.length < sizeLine
        · have k : (if xs.length < sizeLine then leaf (MV.d .non, y.2.set n (.lst (xs ++ [y.1]))) else fail : Tree (MV × MSt)).all _ := k
          rw [if_pos hl] at k
          obtain ⟨y1, y2⟩ := setLoc x2.good h2 (locAt_of hs2) hA (relMs_append rs (.cons rw_ .nil))
          exact ⟨a, vs, w, rfl, rfl, hv, by rw [relMs_len rs]; exact hl, (show ∀ v as' F' H', ExtM as F H as' F' H' → HM X.K F' H' as' (y.2.set n (.lst (xs ++ [y.1]))) → RelM X.K F' as' v (.d .non) → Q v H' from k) .non as2 F2 _ ((x1.trans x2).trans y1) y2 .non⟩
        · have k : (if xs.length < sizeLine then leaf (MV.d .non, y.2.set n (.lst (xs ++ [y.1]))) else fail : Tree (MV × MSt)).all _ := k
          rw [if_neg hl] at k; exact k.elim
end
end R

set_option Elab.async false
set_option linter.all false
set_option maxRecDepth 100000
set_option maxHeartbeats 2000000
/-! the mutable mirror: still values by the rules of the still reading -/
namespace R
open PySem PySem.Spec PyProof.Rows L2
open Tree (leaf fail)
theorem tM_R {K : PySem.W.Frag} {m : En → Tree D} {σ : L2.St} {H : Hp} {Q : VK} (h : tM K (meR m) σ H Q) : tE K m σ H Q := by
  obtain ⟨as, F, E, S, g, hm, r, q⟩ := h
  rcases orT_all q with q | q
  · exact ⟨fun _ => True, F, view0 E, g, view0_rel r _, Tree.all_mono (fun d k v F2 H2 e2 rv => k v as F2 H2 e2.toM (hm.ext e2) rv) (Tree.all_bind.mp q)⟩
  · refine ⟨fun _ => True, frzF S as H F, snap E S, (frz_good g hm).1, snap_rel g hm r _, Tree.all_mono (fun d k v F2 H2 e2 rv => ?_) (Tree.all_bind.mp q)⟩
    by_cases hd : noL 12 d = true
    · have k : (if noL 12 d = true then leaf (MV.d d, S) else fail : Tree (MV × MSt)).all _ := k
      rw [if_pos hd] at k
      obtain ⟨x1, x2⟩ := rollM g hm e2
      exact (show ∀ v as' F' H', ExtM as F H as' F' H' → HM K F' H' as' S → RelM K F' as' v (.d d) → Q v H' from k) v as _ H2 x1 x2 (roll_rep hm e2 12 d v hd rv)
    · have k : (if noL 12 d = true then leaf (MV.d d, S) else fail : Tree (MV × MSt)).all _ := k
      rw [if_neg hd] at k; exact k.elim
theorem ms_setLcR {X : Cx} {st : Stmt} {i : Nat} {ml : En → Tree (List D)} (h : ∃ te, PS X st (tAsg te (gName i)) ∧ ∀ σ H Q, tL X.K ml σ H Q → te σ H Q) : SMS X st (msAsg (meR (mList ml)) (mgPut i)) := by
  obtain ⟨te, h1, h2⟩ := h
  exact ms_set ⟨te, h1, fun σ H Q h => h2 σ H Q (tL_of_E (tM_R h))⟩
end R

set_option Elab.async false
set_option linter.all false
set_option maxRecDepth 100000
set_option maxHeartbeats 2000000
/-! isinstance(x, C), isinstance(x, (C, D)), x an own exception with a value -/
namespace R
open PySem PySem.Spec PyProof.Rows L2
open Tree (leaf fail)
def rIsI (K : PySem.W.Frag) : List V → Hp → VK → Prop := fun xs H Q => ∃ a D dd v c cv b, xs = [.ref a, c] ∧ H a = some (uX a D (some dd)) ∧ H dd = some (uD dd [("value", v)]) ∧ IsC K D ∧ (∀ u, RelV c u → u = cv) ∧ PySem.W.kitOne K (.ref D) cv = some b ∧ Q (.bl b) H
theorem call_isI {X : Cx} : CallR X (.builtin "isinstance") (rIsI X.K) := by
  refine fun pins s σ H xs us Q I r ⟨a, D, dd, v, c, cv, b, e0, h1, h2, C, hcv, e, q⟩ => ?_
  subst e0
  obtain ⟨ux, ut, rfl, rx, rt⟩ : ∃ ux ut, us = [ux, ut] ∧ RelV (.ref a) ux ∧ RelV c ut := by
    cases r with
    | cons rx rr => cases rr with
      | cons rt rr => cases rr; exact ⟨_, _, rfl, rx, rt⟩
  obtain rfl : ux = Value.ref a := rx
  obtain rfl := hcv _ rt
  obtain ⟨t1, ho⟩ := exo_at (d := some dd) I.hok h1
  obtain ⟨mA, hns, hrl⟩ := exd_at I.hok h2
  obtain ⟨od, hod, hl⟩ := lookIn_ns hns
  have J : PySem.W.InstAt s.heap a _ D (some od) := ⟨ho, rfl, rfl, hod⟩
  exact PySem.W.kia_one (PySem.W.kitx_exc C.hc C.gb C.gn C.sb C.cl C.gt C.tk C.ob) I.kIn J e (fun z => nomatch z) fun tk => ⟨.bl b, H, I.kept (t' := tk) fun _ _ z => z, rfl, q⟩
def rIsIT (K : PySem.W.Frag) : List V → Hp → VK → Prop := fun xs H Q => ∃ a D dd v tp cs cvs b, xs = [.ref a, .ref tp] ∧ H a = some (uX a D (some dd)) ∧ H dd = some (uD dd [("value", v)]) ∧ IsC K D ∧ SqT K H tp cs ∧ (∀ us, Vals cs us → us = cvs) ∧ PySem.W.kitAny K (.ref D) cvs = some b ∧ Q (.bl b) H
theorem call_isIT {X : Cx} : CallR X (.builtin "isinstance") (rIsIT X.K) := by
  refine fun pins s σ H xs us Q I r ⟨a, D, dd, v, tp, cs, cvs, b, e0, h1, h2, C, hs, hcv, e, q⟩ => ?_
  subst e0
  obtain ⟨ux, ut, rfl, rx, rt⟩ : ∃ ux ut, us = [ux, ut] ∧ RelV (.ref a) ux ∧ RelV (.ref tp) ut := by
    cases r with
    | cons rx rr => cases rr with
      | cons rt rr => cases rr; exact ⟨_, _, rfl, rx, rt⟩
  obtain rfl : ux = Value.ref a := rx
  obtain rfl : ut = Value.ref tp := rt
  obtain ⟨t1, ho⟩ := exo_at (d := some dd) I.hok h1
  obtain ⟨mA, hns, hrl⟩ := exd_at I.hok h2
  obtain ⟨od, hod, hl⟩ := lookIn_ns hns
  have J : PySem.W.InstAt s.heap a _ D (some od) := ⟨ho, rfl, rfl, hod⟩
  obtain ⟨its, rv, ⟨o, hg, hc, n, hd⟩, _⟩ := I.tuple hs
  obtain rfl := hcv _ rv
  obtain ⟨oc, od2, odt, osl⟩ := o
  cases hc
  cases hd
  exact PySem.W.kia_tup (PySem.W.kitx_exc C.hc C.gb C.gn C.sb C.cl C.gt C.tk C.ob) I.kIn J hg e (fun z => nomatch z) fun tk => ⟨.bl b, H, I.kept (t' := tk) fun _ _ z => z, rfl, q⟩
/-- the answers by the classes' addresses -/
def mIsI (cs : List Addr) (tb : List Bool) (m : En → Tree D) : En → Tree D := fun E => (m E).bind fun d => match d with
  | .inst C [_] => match (cs.zip tb).lookup C with
    | some b => leaf (.bl b)
    | none => fail
  | _ => fail
/-- what stands as the second argument: a class -/
def tCs (cs : List V) : TA := fun σ H Q => Q cs H
theorem pa_cs_nil {X : Cx} : PA X [] (tCs []) := ⟨fun pos pins s σ H Q I h => pa_nil.run pos pins s σ H Q I h⟩
theorem pa_cs_cons {X : Cx} {e : Expr} {es : List Expr} {c : V} {cs : List V} (h1 : PE X e (tC c)) (h2 : PA X es (tCs cs)) (hs : starEach (e :: es) X.env = (false, eval e X.env) :: starEach es X.env := by rfl) : PA X (e :: es) (tCs (c :: cs)) :=
  ⟨fun pos pins s σ H Q I h => (pa_cons h1 h2 hs).run pos pins s σ H Q I h⟩
section
variable {X : Cx} {p pos tpos : Pos} {e ec : Expr} {m : En → Tree D} {cs : List Addr} {tb : List Bool}
theorem lookup_zip {cs : List Addr} {tb : List Bool} {C : Addr} {b : Bool} (h : (cs.zip tb).lookup C = some b) : ∃ k : Nat, cs[k]? = some C ∧ tb[k]? = some b := by
  induction cs generalizing tb with
  | nil => simp at h
  | cons c cs ih =>
    cases tb with
    | nil => simp at h
    | cons t tb =>
      rw [List.zip_cons_cons, List.lookup_cons] at h
      by_cases q : (C == c) = true
      · rw [q] at h
        have h : some t = some b := h
        cases h
        exact ⟨0, by rw [eq_of_beq q]; rfl, rfl⟩
      · rw [Bool.not_eq_true] at q
        rw [q] at h
        obtain ⟨k, h1, h2⟩ := ih h
        exact ⟨k + 1, h1, h2⟩
theorem inst_all {P : D → Prop} {d : D} (k : (match d with
  | .inst C [_] => match (cs.zip tb).lookup C with
    | some b => leaf (.bl b)
    | none => fail
  | _ => fail : Tree D).all P) : ∃ C v b, d = .inst C [v] ∧ (cs.zip tb).lookup C = some b ∧ P (.bl b) := by
  split at k
  · rename_i C v
    split at k
    · rename_i b hb; exact ⟨C, v, b, rfl, hb, k⟩
    · exact k.elim
  · exact k.elim
theorem se_isI {c : V} {cv : Value} (hX : ∀ k b, tb[k]? = some b → ∃ CA, Value.ref (cs.getD k 0) = .ref CA ∧ IsC X.K CA ∧ PySem.W.kitOne X.K (.ref CA) cv = some b) (hg : Gl X "isinstance") (hm : X.mg "isinstance" = none) (hcv : ∀ u, RelV c u → u = cv) (he : SE X e m) (hc : PE X ec (tC c))
    (h1 : starEach (e :: ec :: []) X.env = (false, eval e X.env) :: starEach (ec :: []) X.env := by rfl) (h2 : starEach (ec :: []) X.env = (false, eval ec X.env) :: starEach [] X.env := by rfl) (hpl : (backTo pos (starEach (ec :: []) X.env)).any (·.1) = false := by rfl) :
    SE X (.Call (.Name "isinstance" p) [e, ec] [] pos) (mIsI cs tb m) := by
  refine ⟨PE.weak (pe_callB call_isI hg hm (by decide +kernel) (pa_cons he.pe (pa_cons hc pa_nil h2) h1) (by decide) (by decide) h1 hpl) fun σ H Q ⟨B, F, E, g, rl, q⟩ => ?_⟩
  refine ⟨B, F, E, g, rl, Tree.all_mono (fun d k v F1 H1 e1 rv => ?_) (Tree.all_bind.mp q)⟩
  obtain ⟨C, w, b, rfl, hb, k⟩ := inst_all k
  obtain ⟨i, hi, ht⟩ := lookup_zip hb
  obtain ⟨CA, a1, a2, a3⟩ := hX i b ht
  rw [List.getD_eq_getElem?_getD, hi] at a1
  cases a1
  cases rv with
  | @inst a _ dd x _ g1 g2 r => exact ⟨a, C, dd, x, c, cv, b, rfl, e1.good.sub _ _ g1, e1.good.sub _ _ g2, a2, hcv, a3, k (.bl b) F1 H1 e1 (.bl b)⟩
theorem se_isIT {vs : List V} {cvs : List Value} {ecs : List Expr} {kk : Nat} (hX : ∀ k b, tb[k]? = some b → IsC X.K (cs.getD k 0) ∧ PySem.W.kitAny X.K (.ref (cs.getD k 0)) cvs = some b) (hg : Gl X "isinstance") (hm : X.mg "isinstance" = none) (hcv : ∀ us, Vals vs us → us = cvs) (he : SE X e m) (hc : PA X ecs (tCs vs)) (hl : vs.length ≤ 1000)
    (h1 : starEach (e :: .Tuple ecs kk tpos :: []) X.env = (false, eval e X.env) :: starEach (.Tuple ecs kk tpos :: []) X.env := by rfl) (h2 : starEach (.Tuple ecs kk tpos :: []) X.env = (false, eval (.Tuple ecs kk tpos) X.env) :: starEach [] X.env := by rfl) (hpl : (backTo pos (starEach (.Tuple ecs kk tpos :: []) X.env)).any (·.1) = false := by rfl) :
    SE X (.Call (.Name "isinstance" p) [e, .Tuple ecs kk tpos] [] pos) (mIsI cs tb m) := by
  refine ⟨PE.weak (pe_callB call_isIT hg hm (by decide +kernel) (pa_cons he.pe (pa_cons (pe_tup hc) pa_nil h2) h1) (by decide) (by decide) h1 hpl) fun σ H Q ⟨B, F, E, g, rl, q⟩ => ?_⟩
  refine ⟨B, F, E, g, rl, Tree.all_mono (fun d k v F1 H1 e1 rv => ?_) (Tree.all_bind.mp q)⟩
  obtain ⟨C, w, b, rfl, hb, k⟩ := inst_all k
  obtain ⟨i, hi, ht⟩ := lookup_zip hb
  obtain ⟨a2, a3⟩ := hX i b ht
  rw [List.getD_eq_getElem?_getD, hi] at a2 a3
  have hz : vs.length ≤ sizeLine := by rw [sizeLine_eq]; omega
  cases rv with
  | @inst a _ dd x _ g1 g2 r => exact ⟨hz, fun tp hp => by
      have e2 := Ext.addNew (o := .tup vs) e1.good hp
      exact ⟨a, C, dd, x, tp, vs, cvs, b, rfl, e2.good.sub _ _ (e2.mono _ _ g1), e2.good.sub _ _ (e2.mono _ _ g2), a2, .of upd_same, hcv, a3, k (.bl b) _ _ (e1.trans e2) (.bl b)⟩⟩
/-- the answers of isinstance(x, (..)), class by class -/
def ikTB (K : PySem.W.Frag) (cs : List Addr) (cvs : List Value) (t : List Bool) : Bool := (List.range t.length).all fun k => decide (PySem.W.kitAny K (.ref (cs.getD k 0)) cvs = t[k]?)
theorem ikT_of {K : PySem.W.Frag} {cs : List Addr} {cvs : List Value} {t : List Bool} (h : ikTB K cs cvs t = true) (hi : ∀ k, k < t.length → IsC K (cs.getD k 0)) : ∀ k b, t[k]? = some b → IsC K (cs.getD k 0) ∧ PySem.W.kitAny K (.ref (cs.getD k 0)) cvs = some b := fun k b hb => by
  have lk := (List.getElem?_eq_some_iff.mp hb).1
  have := of_decide_eq_true (List.all_eq_true.mp h k (List.mem_range.mpr lk))
  rw [hb] at this
  exact ⟨hi k lk, this⟩
theorem vals_refs : ∀ {as : List Addr} {us : List Value}, Vals (as.map V.ref) us → us = as.map Value.ref
  | [], _, .nil => rfl
  | a :: as, _, .cons r rs => by
    obtain rfl := (show _ = Value.ref a from r)
    rw [vals_refs rs]; rfl
end
end R

set_option Elab.async false
set_option linter.all false
set_option maxRecDepth 100000
set_option maxHeartbeats 2000000
/-! x < y of ints or of tuples of ints -/
namespace R
open PySem PySem.Spec PyProof.Rows L2
open Tree (leaf fail)
theorem room65 {k : Nat} {A : Around} (r : Room k A) : A.units + 65 < cLine := by have := r.un; omega
def ltTB (ns ms : List Int) : Bool := Ob.lexAt (fun j => decide (ns.getD j 0 = ms.getD j 0)) (fun j => decide (ns.getD j 0 < ms.getD j 0)) (decide (ns.length < ms.length)) 0 (min ns.length ms.length)
def rLtT (K : PySem.W.Frag) : R2 := fun x y H Q => ∃ (a b : Addr) (ns ms : List Int), x = .ref a ∧ y = .ref b ∧ SqT K H a (ns.map V.int) ∧ SqT K H b (ms.map V.int) ∧ Q (.bl (ltTB ns ms)) H
theorem op_ltT {X : Cx} (hu : X.A.units < cLine) : OpR X (compareOp .Lt) (rLtT X.K) := by
  intro pins s σ H x y v u Q I rx ry h
  obtain ⟨a, b, ns, ms, rfl, rfl, ha, hb, q⟩ := h
  cases rx
  cases ry
  obtain ⟨its, r1, p1, _⟩ := I.tuple ha
  obtain ⟨its2, r2, p2, _⟩ := I.tuple hb
  have i1 : IntsAre its ns := Vals.ints r1
  have i2 : IntsAre its2 ms := Vals.ints r2
  have e1 : its.toArray.size = ns.length := by rw [List.size_toArray]; exact i1.length
  have e2 : its2.toArray.size = ms.length := by rw [List.size_toArray]; exact i2.length
  have g1 : ∀ j (h1 : j < its.toArray.size), ∃ t, its.toArray[j] = .int (ns.getD j 0) t := fun j h1 => PyProof.Rows.IntsAre.int_at i1 _ _ (by simp at h1; simp [h1])
  have g2 : ∀ j (h1 : j < its2.toArray.size), ∃ t, its2.toArray[j] = .int (ms.getD j 0) t := fun j h1 => PyProof.Rows.IntsAre.int_at i2 _ _ (by simp at h1; simp [h1])
  have R := Ob.RcOp.tuples_lt (A := X.A) (s := s) (e := fun j => decide (ns.getD j 0 = ms.getD j 0)) (r := fun j => decide (ns.getD j 0 < ms.getD j 0)) p1 p2 hu (fun j h1 h2 => by
    obtain ⟨t, et⟩ := g1 j h1
    obtain ⟨t', et'⟩ := g2 j h2
    rw [et, et']
    have z : decide (ns.getD j 0 = ms.getD j 0) = (ns.getD j 0 == ms.getD j 0) := by
      by_cases q : ns.getD j 0 = ms.getD j 0
      · rw [decide_eq_true q]; exact (beq_iff_eq.mpr q).symm
      · rw [decide_eq_false q]; exact (beq_eq_false_iff_ne.mpr q).symm
    show SeqAt.EqAt _ _ _ _ (decide (ns.getD j 0 = ms.getD j 0))
    rw [z]
    exact SeqAt.EqAt.int_int _ _ _ _) (fun j h1 h2 _ => by
    obtain ⟨t, et⟩ := g1 j h1
    obtain ⟨t', et'⟩ := g2 j h2
    rw [et, et']
    exact Ob.RcOp.lt_int _ _ _ _)
  rw [e1, e2] at R
  have z : wpAny (model X.prog X.w) X.A (compareOp .Lt (.ref a) (.ref b)) (EP X pins σ Q) X.xe s := R X.prog X.w X.xe (EP X pins σ Q) ⟨.bl _, H, I, rfl, q⟩
  exact z
def cLtA : D → D → Tree Bool
  | .int i, .int j => leaf (decide (i < j))
  | .tup xs, .tup ys => match intsD xs, intsD ys with
    | some ns, some ms => leaf (ltTB ns ms)
    | _, _ => fail
  | _, _ => fail
def rLtA (K : PySem.W.Frag) : R2 := fun x y H Q => rI0 (fun i j => .bl (decide (i < j))) x y H Q ∨ rLtT K x y H Q
theorem op_ltA {X : Cx} (hu : X.A.units + 65 < cLine) : OpR X (compareOp .Lt) (rLtA X.K) := OpR.or op_lt (op_ltT (by omega))
theorem tup_ints {K : PySem.W.Frag} {F : Fz} {H : Hp} {v : V} {xs : List D} {ns : List Int} (g : Good F H) (p : Pk K F H v (.tup xs)) (e : intsD xs = some ns) : ∃ a, v = .ref a ∧ SqT K H a (ns.map V.int) := by
  cases p with
  | rep r =>
    cases r with
    | @tup a vs _ hs rs =>
      have := ints_of e rs
      subst this
      exact ⟨a, rfl, sqT_same g.sub hs.sq⟩
theorem c2_ltA {K : PySem.W.Frag} : Cmp2 K (rLtA K) cLtA := by
  intro F H v u d e Q g p1 p2 q
  unfold cLtA at q
  split at q
  · cases p1.int; cases p2.int
    exact .inl ⟨_, _, rfl, rfl, q⟩
  · split at q
    · rename_i ns ms h1 h2
      obtain ⟨a, rfl, sa⟩ := tup_ints g p1 h1
      obtain ⟨b, rfl, sb⟩ := tup_ints g p2 h2
      exact .inr ⟨a, b, ns, ms, rfl, rfl, sa, sb, q⟩
    · exact q.elim
  · exact q.elim
end R

set_option Elab.async false
set_option linter.all false
set_option maxRecDepth 100000
set_option maxHeartbeats 4000000
namespace R
open PySem PySem.Spec PyProof.Rows L2
def mRepL (ma mb : En → Tree D) : En → Tree (List D) := fun E => (ma E).bind fun d => (mb E).bind fun e => opRepL d e
def mListOf (m : En → Tree D) : En → Tree (List D) := fun E => (m E).bind fList
def mListRg (m m2 : En → Tree D) : En → Tree (List D) := fun E => (m E).bind fun d => (m2 E).bind fun d2 => match d, d2 with
  | .int i, .int j => if (rgOk i && rgOk j) = true then .leaf (rangeD i j) else .fail
  | _, _ => .fail
def mListR1 (m : En → Tree D) : En → Tree (List D) := fun E => (m E).bind fun d => match d with
  | .int j => if (rgOk 0 && rgOk j) = true then .leaf (rangeD 0 j) else .fail
  | _ => .fail
def miSeq (m : MT MV) : MT MIt := fun E S => (m E S).bind fun r => hasSrc r.1 r.2 (.leaf (itSeq r.1, r.2))
def miEnum (m : MT MV) : MT MIt := fun E S => (m E S).bind fun r => hasSrc r.1 r.2 (.leaf (itEnum r.1, r.2))
def miZip (m n : MT MV) : MT MIt := fun E S => (m E S).bind fun r => (n E r.2).bind fun s => hasSrc r.1 s.2 (hasSrc s.1 s.2 (.leaf (itZip r.1 s.1, s.2)))
def miRange1 (m : MT MV) : MT MIt := fun E S => (m E S).bind fun r => match r.1 with
  | .d (.int j) => if rOk j = true then .leaf (itRange 0 j, r.2) else .fail
  | _ => .fail
def suPar3 (i1 i2 i3 : Nat) (ms : SuL) : SuV := fun k v E => (ms k v E).bind fun ds => match ds with
  | [d1, d2, d3] => .leaf (.nx (((E.put i1 d1).put i2 d2).put i3 d3))
  | _ => .fail
end R
namespace Law
open PySem PySem.Spec PyProof.Rows L2 R LamX
def FUEL : Nat := 2 ^ 9000
def topS (i : Nat) : Stmt := PySem.Challenge.rw_chancepairs_k21_nearest_refused.prog.main.body.getD i (.Pass ⟨0, 0, 0, 0⟩)
structure Nb (mg : Str → Option Value) : Prop where
  b_ValueError : mg "ValueError" = none
  b_abs : mg "abs" = none
  b_all : mg "all" = none
  b_any : mg "any" = none
  b_bool : mg "bool" = none
  b_divmod : mg "divmod" = none
  b_enumerate : mg "enumerate" = none
  b_int : mg "int" = none
  b_isinstance : mg "isinstance" = none
  b_len : mg "len" = none
  b_list : mg "list" = none
  b_max : mg "max" = none
  b_min : mg "min" = none
  b_range : mg "range" = none
  b_repr : mg "repr" = none
  b_set : mg "set" = none
  b_sorted : mg "sorted" = none
  b_tuple : mg "tuple" = none
  b_zip : mg "zip" = none
/-! ### classes: InvalidJoint InvalidFraction InvalidLot InvalidLots InvalidPlaces UnlikePlaces -/
def CC : Nat → Value := fun k => .ref (CLSA.getD k 0)
abbrev NV : Nat := 5
abbrev CA_InvalidJoint : Addr := CLSA.getD 0 0
abbrev CA_InvalidFraction : Addr := CLSA.getD 1 0
abbrev CA_InvalidLot : Addr := CLSA.getD 2 0
abbrev CA_InvalidLots : Addr := CLSA.getD 3 0
abbrev CA_InvalidPlaces : Addr := CLSA.getD 4 0
abbrev CA_UnlikePlaces : Addr := CLSA.getD 5 0
abbrev CA_StateError : Addr := CLSA.getD 6 0
abbrev CA_ChanceError : Addr := CLSA.getD 7 0
abbrev CA_MissingError : Addr := CLSA.getD 8 0
abbrev CA_LimitError : Addr := CLSA.getD 9 0
abbrev VALCS : List Addr := [CA_InvalidJoint, CA_InvalidLots, CA_InvalidPlaces]
abbrev IT_StateError : List Bool := [false, false, false, false, false, true]
abbrev IT_ChanceError : List Bool := [true, true, true, true, true, false]
abbrev IT_ValueError : List Bool := [true, true, true, true, true, false]
abbrev ITT_0 : List Bool := [false, false, false, false, false, true]
abbrev ITV_0 : List Addr := [CA_StateError, CA_MissingError, CA_LimitError]
abbrev MTlaw_heard : List (List Bool) := [[false, false, false, true], [false, false, false, false, true], [false, true], [true], [false, false, true], [false, false, false, false, false, true]]
abbrev HSlaw_heard : List Addr := [CA_InvalidLots, CA_InvalidLot, CA_InvalidPlaces, CA_InvalidJoint, CA_InvalidFraction, CA_UnlikePlaces]
abbrev s_init : Stmt := match topS 1 with
  | .ClassDef _ _ _ body _ _ _ _ _ _ _ => body.getD 0 (.Pass ⟨0, 0, 0, 0⟩)
  | s => s
theorem sc_init : FnScope ["self", "value"] ["self", "value"] (defScope s_init) := ⟨rfl, rfl, rfl, by decide +kernel, rfl, by decide +kernel, by decide +kernel⟩
structure ClsF (K : PySem.W.Frag) (mg : Str → Option Value) : Prop where
  v_InvalidJoint : VClF K mg "InvalidJoint" CA_InvalidJoint "ChanceError.__init__" s_init
  v_InvalidFraction : VClF K mg "InvalidFraction" CA_InvalidFraction "ChanceError.__init__" s_init
  v_InvalidLot : VClF K mg "InvalidLot" CA_InvalidLot "ChanceError.__init__" s_init
  v_InvalidLots : VClF K mg "InvalidLots" CA_InvalidLots "ChanceError.__init__" s_init
  v_InvalidPlaces : VClF K mg "InvalidPlaces" CA_InvalidPlaces "ChanceError.__init__" s_init
  n_UnlikePlaces : ExcN K mg "UnlikePlaces" CA_UnlikePlaces
  c_InvalidJoint : mg "InvalidJoint" = some (.ref CA_InvalidJoint)
  c_InvalidFraction : mg "InvalidFraction" = some (.ref CA_InvalidFraction)
  c_InvalidLot : mg "InvalidLot" = some (.ref CA_InvalidLot)
  c_InvalidLots : mg "InvalidLots" = some (.ref CA_InvalidLots)
  c_InvalidPlaces : mg "InvalidPlaces" = some (.ref CA_InvalidPlaces)
  c_UnlikePlaces : mg "UnlikePlaces" = some (.ref CA_UnlikePlaces)
  c_StateError : mg "StateError" = some (.ref CA_StateError)
  c_ChanceError : mg "ChanceError" = some (.ref CA_ChanceError)
  c_MissingError : mg "MissingError" = some (.ref CA_MissingError)
  c_LimitError : mg "LimitError" = some (.ref CA_LimitError)
  IK_StateError : ikB K CLSA (.ref CA_StateError) IT_StateError = true
  IK_ChanceError : ikB K CLSA (.ref CA_ChanceError) IT_ChanceError = true
  IK_ValueError : ikB K CLSA (.type "ValueError") IT_ValueError = true
  IKT_0 : ikTB K CLSA (ITV_0.map Value.ref) ITT_0 = true
  XMlaw_heard : xmB K CLSA HSlaw_heard MTlaw_heard = true

structure Cls (P : Program) (w : World) (K : PySem.W.Frag) (mg : Str → Option Value) (base : Heap) : Prop where
  v_InvalidJoint : VCls P w K mg base "InvalidJoint" CA_InvalidJoint
  v_InvalidFraction : VCls P w K mg base "InvalidFraction" CA_InvalidFraction
  v_InvalidLot : VCls P w K mg base "InvalidLot" CA_InvalidLot
  v_InvalidLots : VCls P w K mg base "InvalidLots" CA_InvalidLots
  v_InvalidPlaces : VCls P w K mg base "InvalidPlaces" CA_InvalidPlaces
  n_UnlikePlaces : ExcN K mg "UnlikePlaces" CA_UnlikePlaces
  c_InvalidJoint : mg "InvalidJoint" = some (.ref CA_InvalidJoint)
  c_InvalidFraction : mg "InvalidFraction" = some (.ref CA_InvalidFraction)
  c_InvalidLot : mg "InvalidLot" = some (.ref CA_InvalidLot)
  c_InvalidLots : mg "InvalidLots" = some (.ref CA_InvalidLots)
  c_InvalidPlaces : mg "InvalidPlaces" = some (.ref CA_InvalidPlaces)
  c_UnlikePlaces : mg "UnlikePlaces" = some (.ref CA_UnlikePlaces)
  c_StateError : mg "StateError" = some (.ref CA_StateError)
  c_ChanceError : mg "ChanceError" = some (.ref CA_ChanceError)
  c_MissingError : mg "MissingError" = some (.ref CA_MissingError)
  c_LimitError : mg "LimitError" = some (.ref CA_LimitError)
  IK_StateError : ∀ k b, (IT_StateError)[k]? = some b → ∃ CA, CC k = .ref CA ∧ IsC K CA ∧ PySem.W.kitOne K (.ref CA) (.ref CA_StateError) = some b
  IK_ChanceError : ∀ k b, (IT_ChanceError)[k]? = some b → ∃ CA, CC k = .ref CA ∧ IsC K CA ∧ PySem.W.kitOne K (.ref CA) (.ref CA_ChanceError) = some b
  IK_ValueError : ∀ k b, (IT_ValueError)[k]? = some b → ∃ CA, CC k = .ref CA ∧ IsC K CA ∧ PySem.W.kitOne K (.ref CA) (.type "ValueError") = some b
  IKT_0 : ∀ k b, ITT_0[k]? = some b → IsC K (CLSA.getD k 0) ∧ PySem.W.kitAny K (.ref (CLSA.getD k 0)) (ITV_0.map Value.ref) = some b
  XMlaw_heard : ∀ k j c b, (HSlaw_heard)[j]? = some c → mtOf MTlaw_heard k j = some b → PySem.W.exmOne K (CC k) (.ref c) = some b
  RX : ∀ k, k < NV → ∃ CA, CC k = .ref CA ∧ XfC K CA ∧ PySem.W.findIn K (.ref CA) "value" = some none
  val : ∀ C ∈ VALCS, XfC K C ∧ PySem.W.findIn K (.ref C) "value" = some none
theorem cls_of {P : Program} {w : World} {K : PySem.W.Frag} {mg : Str → Option Value} {base : Heap} (c : ClsF K mg) : Cls P w K mg base where
  v_InvalidJoint := vcls_of c.v_InvalidJoint sc_init rfl (fun _ _ _ _ _ _ us hl => match us, hl with | [_, _], _ => rfl) (fun _ _ _ _ _ _ _ _ => rfl) (fun _ _ _ _ _ _ _ _ => ⟨pv 0, pv 1⟩)
  v_InvalidFraction := vcls_of c.v_InvalidFraction sc_init rfl (fun _ _ _ _ _ _ us hl => match us, hl with | [_, _], _ => rfl) (fun _ _ _ _ _ _ _ _ => rfl) (fun _ _ _ _ _ _ _ _ => ⟨pv 0, pv 1⟩)
  v_InvalidLot := vcls_of c.v_InvalidLot sc_init rfl (fun _ _ _ _ _ _ us hl => match us, hl with | [_, _], _ => rfl) (fun _ _ _ _ _ _ _ _ => rfl) (fun _ _ _ _ _ _ _ _ => ⟨pv 0, pv 1⟩)
  v_InvalidLots := vcls_of c.v_InvalidLots sc_init rfl (fun _ _ _ _ _ _ us hl => match us, hl with | [_, _], _ => rfl) (fun _ _ _ _ _ _ _ _ => rfl) (fun _ _ _ _ _ _ _ _ => ⟨pv 0, pv 1⟩)
  v_InvalidPlaces := vcls_of c.v_InvalidPlaces sc_init rfl (fun _ _ _ _ _ _ us hl => match us, hl with | [_, _], _ => rfl) (fun _ _ _ _ _ _ _ _ => rfl) (fun _ _ _ _ _ _ _ _ => ⟨pv 0, pv 1⟩)
  n_UnlikePlaces := c.n_UnlikePlaces
  c_InvalidJoint := c.c_InvalidJoint
  c_InvalidFraction := c.c_InvalidFraction
  c_InvalidLot := c.c_InvalidLot
  c_InvalidLots := c.c_InvalidLots
  c_InvalidPlaces := c.c_InvalidPlaces
  c_UnlikePlaces := c.c_UnlikePlaces
  c_StateError := c.c_StateError
  c_ChanceError := c.c_ChanceError
  c_MissingError := c.c_MissingError
  c_LimitError := c.c_LimitError
  IK_StateError := ik_of c.IK_StateError fun k h => match k, h with
    | 0, _ => c.v_InvalidJoint.isc
    | 1, _ => c.v_InvalidFraction.isc
    | 2, _ => c.v_InvalidLot.isc
    | 3, _ => c.v_InvalidLots.isc
    | 4, _ => c.v_InvalidPlaces.isc
    | 5, _ => c.n_UnlikePlaces.isc
    | n + 6, h => absurd h (Nat.not_lt.mpr (Nat.le_add_left 6 n))
  IK_ChanceError := ik_of c.IK_ChanceError fun k h => match k, h with
    | 0, _ => c.v_InvalidJoint.isc
    | 1, _ => c.v_InvalidFraction.isc
    | 2, _ => c.v_InvalidLot.isc
    | 3, _ => c.v_InvalidLots.isc
    | 4, _ => c.v_InvalidPlaces.isc
    | 5, _ => c.n_UnlikePlaces.isc
    | n + 6, h => absurd h (Nat.not_lt.mpr (Nat.le_add_left 6 n))
  IK_ValueError := ik_of c.IK_ValueError fun k h => match k, h with
    | 0, _ => c.v_InvalidJoint.isc
    | 1, _ => c.v_InvalidFraction.isc
    | 2, _ => c.v_InvalidLot.isc
    | 3, _ => c.v_InvalidLots.isc
    | 4, _ => c.v_InvalidPlaces.isc
    | 5, _ => c.n_UnlikePlaces.isc
    | n + 6, h => absurd h (Nat.not_lt.mpr (Nat.le_add_left 6 n))
  IKT_0 := ikT_of c.IKT_0 fun k h => match k, h with
    | 0, _ => c.v_InvalidJoint.isc
    | 1, _ => c.v_InvalidFraction.isc
    | 2, _ => c.v_InvalidLot.isc
    | 3, _ => c.v_InvalidLots.isc
    | 4, _ => c.v_InvalidPlaces.isc
    | 5, _ => c.n_UnlikePlaces.isc
    | n + 6, h => absurd h (Nat.not_lt.mpr (Nat.le_add_left 6 n))
  XMlaw_heard := xm_of c.XMlaw_heard
  RX := fun k h => match k, h with
    | 0, _ => ⟨_, rfl, c.v_InvalidJoint.xf, c.v_InvalidJoint.no⟩
    | 1, _ => ⟨_, rfl, c.v_InvalidFraction.xf, c.v_InvalidFraction.no⟩
    | 2, _ => ⟨_, rfl, c.v_InvalidLot.xf, c.v_InvalidLot.no⟩
    | 3, _ => ⟨_, rfl, c.v_InvalidLots.xf, c.v_InvalidLots.no⟩
    | 4, _ => ⟨_, rfl, c.v_InvalidPlaces.xf, c.v_InvalidPlaces.no⟩
    | n + 5, h => absurd h (Nat.not_lt.mpr (Nat.le_add_left 5 n))
  val := fun C h => by
    simp only [VALCS, List.mem_cons, List.not_mem_nil, or_false] at h
    rcases h with rfl | rfl | rfl
    · exact ⟨c.v_InvalidJoint.xf, c.v_InvalidJoint.no⟩
    · exact ⟨c.v_InvalidLots.xf, c.v_InvalidLots.no⟩
    · exact ⟨c.v_InvalidPlaces.xf, c.v_InvalidPlaces.no⟩

def TC_law_two_calls : Addr := (TBC.getD 0 (0, 0, "")).1
def TP_law_two_calls : Addr := (TBC.getD 0 (0, 0, "")).2.1
def TC_law_lots_calls : Addr := (TBC.getD 1 (0, 0, "")).1
def TP_law_lots_calls : Addr := (TBC.getD 1 (0, 0, "")).2.1
def TC_law_lots_right : Addr := (TBC.getD 2 (0, 0, "")).1
def TP_law_lots_right : Addr := (TBC.getD 2 (0, 0, "")).2.1
def TC_law_rest_right : Addr := (TBC.getD 3 (0, 0, "")).1
def TP_law_rest_right : Addr := (TBC.getD 3 (0, 0, "")).2.1
def TC_law_let_right : Addr := (TBC.getD 4 (0, 0, "")).1
def TP_law_let_right : Addr := (TBC.getD 4 (0, 0, "")).2.1
/-! ### _law_draw, level 1 -/
abbrev s_law_draw : Stmt := topS 76
abbrev N_law_draw : List Str := ["pot", "many", "digit"]
theorem sc_law_draw : FnScope N_law_draw ["pot", "many"] (defScope s_law_draw) := ⟨rfl, rfl, rfl, by decide +kernel, rfl, by decide +kernel, by decide +kernel⟩
def f_law_draw : List D → Tree D := fDraw
/-! ### _law_pick, level 2 -/
abbrev s_law_pick : Stmt := topS 77
abbrev N_law_pick : List Str := ["pot", "some"]
theorem sc_law_pick : FnScope N_law_pick ["pot", "some"] (defScope s_law_pick) := ⟨rfl, rfl, rfl, by decide +kernel, rfl, by decide +kernel, by decide +kernel⟩
def b_law_pick : En → Tree Out := (oRet (m2 opIx (mPeek 1) (mA f_law_draw (aCons (mVar 0) (aCons (mA fLen (aCons (mPeek 1) aNil)) aNil)))))
def f_law_pick : List D → Tree D := mDef 2 2 b_law_pick
/-! ### divisor, level 1 -/
abbrev s_divisor : Stmt := topS 16
abbrev N_divisor : List Str := ["one", "late"]
theorem sc_divisor : FnScope N_divisor ["one", "late"] (defScope s_divisor) := ⟨rfl, rfl, rfl, by decide +kernel, rfl, by decide +kernel, by decide +kernel⟩
def b_divisor : En → Tree Out := (oSeq (oWhile (mC cGt (mPeek 1) (fun _ => .leaf (.int 0)))
  (oPar 0 1 (aCons (mVar 1) (aCons (m2 opMod (mA fInt (aCons (mPeek 0) aNil)) (mPeek 1)) aNil))) FUEL)
  (oRet (mVar 0)))
def f_divisor : List D → Tree D := mDef 2 2 b_divisor
/-! ### reduced, level 2 -/
abbrev s_reduced : Stmt := topS 23
abbrev N_reduced : List Str := ["top", "bottom", "common"]
theorem sc_reduced : FnScope N_reduced ["top", "bottom"] (defScope s_reduced) := ⟨rfl, rfl, rfl, by decide +kernel, rfl, by decide +kernel, by decide +kernel⟩
def b_reduced : En → Tree Out := (oSeq (oIf (mC cLtA (mPeek 1) (fun _ => .leaf (.int 0)))
  (oPar 0 1 (aCons (m2 opSub (fun _ => .leaf (.int 0)) (mPeek 0)) (aCons (m2 opSub (fun _ => .leaf (.int 0)) (mPeek 1)) aNil)))
  oNx)
  (oSeq (oSet 2 (mA f_divisor (aCons (mA fAbs (aCons (mPeek 0) aNil)) (aCons (mVar 1) aNil))))
  (oRet (mTup (aCons (m2 opDiv (mPeek 0) (mPeek 2)) (aCons (m2 opDiv (mPeek 1) (mPeek 2)) aNil))))))
def f_reduced : List D → Tree D := mDef 2 3 b_reduced
/-! ### divide, level 3 -/
abbrev s_divide : Stmt := topS 26
abbrev N_divide : List Str := ["one", "late"]
theorem sc_divide : FnScope N_divide ["one", "late"] (defScope s_divide) := ⟨rfl, rfl, rfl, by decide +kernel, rfl, by decide +kernel, by decide +kernel⟩
def b_divide : En → Tree Out := (oRet (mA f_reduced (aCons (m2 opMul (m2 opIx (mPeek 0) (fun _ => .leaf (.int 0))) (m2 opIx (mPeek 1) (fun _ => .leaf (.int 1)))) (aCons (m2 opMul (m2 opIx (mPeek 0) (fun _ => .leaf (.int 1))) (m2 opIx (mPeek 1) (fun _ => .leaf (.int 0)))) aNil))))
def f_divide : List D → Tree D := mDef 2 2 b_divide
/-! ### add, level 3 -/
abbrev s_add : Stmt := topS 24
abbrev N_add : List Str := ["one", "late"]
theorem sc_add : FnScope N_add ["one", "late"] (defScope s_add) := ⟨rfl, rfl, rfl, by decide +kernel, rfl, by decide +kernel, by decide +kernel⟩
def b_add : En → Tree Out := (oRet (mA f_reduced (aCons (m2 opAdd (m2 opMul (m2 opIx (mPeek 0) (fun _ => .leaf (.int 0))) (m2 opIx (mPeek 1) (fun _ => .leaf (.int 1)))) (m2 opMul (m2 opIx (mPeek 1) (fun _ => .leaf (.int 0))) (m2 opIx (mPeek 0) (fun _ => .leaf (.int 1))))) (aCons (m2 opMul (m2 opIx (mPeek 0) (fun _ => .leaf (.int 1))) (m2 opIx (mPeek 1) (fun _ => .leaf (.int 1)))) aNil))))
def f_add : List D → Tree D := mDef 2 2 b_add
/-! ### total, level 4 -/
abbrev s_total : Stmt := topS 29
abbrev N_total : List Str := ["some", "found", "one"]
theorem sc_total : FnScope N_total ["some"] (defScope s_total) := ⟨rfl, rfl, rfl, by decide +kernel, rfl, by decide +kernel, by decide +kernel⟩
def b_total : En → Tree Out := (oSeq (oSet 1 (fun _ => .leaf (.tup [(.int 0), (.int 1)])))
  (oSeq (oFor (mSeq (mVar 0)) (gPut 2)
  (oSet 1 (mA f_add (aCons (mVar 1) (aCons (mVar 2) aNil)))))
  (oRet (mVar 1))))
def f_total : List D → Tree D := mDef 1 3 b_total
/-! ### is_below, level 1 -/
abbrev s_is_below : Stmt := topS 27
abbrev N_is_below : List Str := ["one", "late"]
theorem sc_is_below : FnScope N_is_below ["one", "late"] (defScope s_is_below) := ⟨rfl, rfl, rfl, by decide +kernel, rfl, by decide +kernel, by decide +kernel⟩
def b_is_below : En → Tree Out := (oRet (mB (mC cLtA (m2 opMul (m2 opIx (mPeek 0) (fun _ => .leaf (.int 0))) (m2 opIx (mPeek 1) (fun _ => .leaf (.int 1)))) (m2 opMul (m2 opIx (mPeek 1) (fun _ => .leaf (.int 0))) (m2 opIx (mPeek 0) (fun _ => .leaf (.int 1)))))))
def f_is_below : List D → Tree D := mDef 2 2 b_is_below
/-! ### take, level 3 -/
abbrev s_take : Stmt := topS 25
abbrev N_take : List Str := ["one", "late"]
theorem sc_take : FnScope N_take ["one", "late"] (defScope s_take) := ⟨rfl, rfl, rfl, by decide +kernel, rfl, by decide +kernel, by decide +kernel⟩
def b_take : En → Tree Out := (oRet (mA f_reduced (aCons (m2 opSub (m2 opMul (m2 opIx (mPeek 0) (fun _ => .leaf (.int 0))) (m2 opIx (mPeek 1) (fun _ => .leaf (.int 1)))) (m2 opMul (m2 opIx (mPeek 1) (fun _ => .leaf (.int 0))) (m2 opIx (mPeek 0) (fun _ => .leaf (.int 1))))) (aCons (m2 opMul (m2 opIx (mPeek 0) (fun _ => .leaf (.int 1))) (m2 opIx (mPeek 1) (fun _ => .leaf (.int 1)))) aNil))))
def f_take : List D → Tree D := mDef 2 2 b_take
/-! ### far_apart, level 4 -/
abbrev s_far_apart : Stmt := topS 50
abbrev N_far_apart : List Str := ["one", "late"]
theorem sc_far_apart : FnScope N_far_apart ["one", "late"] (defScope s_far_apart) := ⟨rfl, rfl, rfl, by decide +kernel, rfl, by decide +kernel, by decide +kernel⟩
def b_far_apart : En → Tree Out := (oRet (mIf (mT (mA f_is_below (aCons (mVar 0) (aCons (mVar 1) aNil)))) (mA f_take (aCons (mVar 1) (aCons (mVar 0) aNil))) (mA f_take (aCons (mVar 0) (aCons (mVar 1) aNil)))))
def f_far_apart : List D → Tree D := mDef 2 2 b_far_apart
/-! ### distance_of, level 5 -/
abbrev s_distance_of : Stmt := topS 51
abbrev N_distance_of : List Str := ["lot", "other", "one", "late"]
theorem sc_distance_of : FnScope N_distance_of ["lot", "other"] (defScope s_distance_of) := ⟨rfl, rfl, rfl, by decide +kernel, rfl, by decide +kernel, by decide +kernel⟩
def b_distance_of : En → Tree Out := (oRet (mA f_divide (aCons (mA f_total (aCons (mList (mLc (mZip (mPeek 0) (mPeek 1)) [2, 3] (gTp 2 (gsCons (gPut 2) (gsCons (gPut 3) gsNil))) tYesM (mA f_far_apart (aCons (mVar 2) (aCons (mVar 3) aNil))))) aNil)) (aCons (fun _ => .leaf (.tup [(.int 2), (.int 1)])) aNil))))
def f_distance_of : List D → Tree D := mDef 2 4 b_distance_of
/-! ### is_integer, level 1 -/
abbrev s_is_integer : Stmt := topS 13
abbrev N_is_integer : List Str := ["value"]
theorem sc_is_integer : FnScope N_is_integer ["value"] (defScope s_is_integer) := ⟨rfl, rfl, rfl, by decide +kernel, rfl, by decide +kernel, by decide +kernel⟩
def b_is_integer : En → Tree Out := (oRet (mAndV (mA fIsi (aCons (mPeek 0) (aCons (fun _ => .leaf (.ty "int")) aNil))) (mNotV (mA fIsi (aCons (mPeek 0) (aCons (fun _ => .leaf (.ty "bool")) aNil))))))
def f_is_integer : List D → Tree D := mDef 1 1 b_is_integer
/-! ### is_fraction_of, level 2 -/
abbrev s_is_fraction_of : Stmt := topS 17
abbrev N_is_fraction_of : List Str := ["value"]
theorem sc_is_fraction_of : FnScope N_is_fraction_of ["value"] (defScope s_is_fraction_of) := ⟨rfl, rfl, rfl, by decide +kernel, rfl, by decide +kernel, by decide +kernel⟩
def b_is_fraction_of : En → Tree Out := (oSeq (oIf (mOr (mNot (mT (mA fIsi (aCons (mPeek 0) (aCons (fun _ => .leaf (.ty "tuple")) aNil))))) (mOr (mC cNe (mA fLen (aCons (mPeek 0) aNil)) (fun _ => .leaf (.int 2))) (mOr (mNot (mT (mA f_is_integer (aCons (m2 opIx (mPeek 0) (fun _ => .leaf (.int 0))) aNil)))) (mNot (mT (mA f_is_integer (aCons (m2 opIx (mPeek 0) (fun _ => .leaf (.int 1))) aNil)))))))
  (oRet (fun _ => .leaf (.bl false)))
  oNx)
  (oRet (mAndV (mB (mC cGe (m2 opIx (mPeek 0) (fun _ => .leaf (.int 1))) (fun _ => .leaf (.int 1)))) (mB (mC cEq (mA f_divisor (aCons (mA fAbs (aCons (m2 opIx (mPeek 0) (fun _ => .leaf (.int 0))) aNil)) (aCons (m2 opIx (mPeek 0) (fun _ => .leaf (.int 1))) aNil))) (fun _ => .leaf (.int 1)))))))
def f_is_fraction_of : List D → Tree D := mDef 1 1 b_is_fraction_of
/-! ### is_lot_of, level 5 -/
abbrev s_is_lot_of : Stmt := topS 34
abbrev N_is_lot_of : List Str := ["value", "one"]
theorem sc_is_lot_of : FnScope N_is_lot_of ["value"] (defScope s_is_lot_of) := ⟨rfl, rfl, rfl, by decide +kernel, rfl, by decide +kernel, by decide +kernel⟩
def b_is_lot_of : En → Tree Out := (oSeq (oIf (mOr (mNot (mT (mA fIsi (aCons (mPeek 0) (aCons (fun _ => .leaf (.ty "tuple")) aNil))))) (mNot (mCh cLe cLe (fun _ => .leaf (.int 1)) (mA fLen (aCons (mPeek 0) aNil)) (fun _ => .leaf (.int 8)))))
  (oRet (fun _ => .leaf (.bl false)))
  oNx)
  (oSeq (oIf (mNot (mT (mA fAll (aCons (mList (mLc (mSeq (mPeek 0)) [1] (gPut 1) tYesM (mAndV (mA f_is_fraction_of (aCons (mVar 1) aNil)) (mB (mC cGe (m2 opIx (mPeek 1) (fun _ => .leaf (.int 0))) (fun _ => .leaf (.int 0))))))) aNil))))
  (oRet (fun _ => .leaf (.bl false)))
  oNx)
  (oRet (mB (mC cEq (mA f_total (aCons (mVar 0) aNil)) (fun _ => .leaf (.tup [(.int 1), (.int 1)])))))))
def f_is_lot_of : List D → Tree D := mDef 1 2 b_is_lot_of
/-! ### is_short, level 3 -/
abbrev s_is_short : Stmt := topS 18
abbrev N_is_short : List Str := ["value"]
theorem sc_is_short : FnScope N_is_short ["value"] (defScope s_is_short) := ⟨rfl, rfl, rfl, by decide +kernel, rfl, by decide +kernel, by decide +kernel⟩
def b_is_short : En → Tree Out := (oRet (mAndV (mA f_is_fraction_of (aCons (mVar 0) aNil)) (mAndV (mB (mC cLtA (mA fAbs (aCons (m2 opIx (mPeek 0) (fun _ => .leaf (.int 0))) aNil)) (fun _ => .leaf (.int 1000000000000)))) (mB (mC cLtA (m2 opIx (mPeek 0) (fun _ => .leaf (.int 1))) (fun _ => .leaf (.int 1000000000000)))))))
def f_is_short : List D → Tree D := mDef 1 1 b_is_short
/-! ### is_short_lot, level 6 -/
abbrev s_is_short_lot : Stmt := topS 35
abbrev N_is_short_lot : List Str := ["value", "one"]
theorem sc_is_short_lot : FnScope N_is_short_lot ["value"] (defScope s_is_short_lot) := ⟨rfl, rfl, rfl, by decide +kernel, rfl, by decide +kernel, by decide +kernel⟩
def b_is_short_lot : En → Tree Out := (oRet (mAndV (mA f_is_lot_of (aCons (mVar 0) aNil)) (mA fAll (aCons (mList (mLc (mSeq (mPeek 0)) [1] (gPut 1) tYesM (mA f_is_short (aCons (mVar 1) aNil)))) aNil))))
def f_is_short_lot : List D → Tree D := mDef 1 2 b_is_short_lot
/-! ### check_lot, level 7 -/
abbrev s_check_lot : Stmt := topS 36
abbrev N_check_lot : List Str := ["value"]
theorem sc_check_lot : FnScope N_check_lot ["value"] (defScope s_check_lot) := ⟨rfl, rfl, rfl, by decide +kernel, rfl, by decide +kernel, by decide +kernel⟩
def b_check_lot : En → Tree (Res Out) := (oIfV (mNot (mT (mA f_is_short_lot (aCons (mVar 0) aNil))))
  (oRaiseA 2 (aCons (mVar 0) aNil))
  (oOk oNx))
def g_check_lot : List D → Tree (Res D) := mDefV 1 1 b_check_lot
def f_check_lot : List D → Tree D := noV g_check_lot
/-! ### check_two, level 8 -/
abbrev s_check_two : Stmt := topS 37
abbrev N_check_two : List Str := ["lot", "other"]
theorem sc_check_two : FnScope N_check_two ["lot", "other"] (defScope s_check_two) := ⟨rfl, rfl, rfl, by decide +kernel, rfl, by decide +kernel, by decide +kernel⟩
def b_check_two : En → Tree (Res Out) := (oSeqV (oCallV g_check_lot (aCons (mVar 0) aNil))
  (oCallV g_check_lot (aCons (mVar 1) aNil)))
def g_check_two : List D → Tree (Res D) := mDefV 2 2 b_check_two
def f_check_two : List D → Tree D := noV g_check_two
/-! ### check_alike, level 9 -/
abbrev s_check_alike : Stmt := topS 38
abbrev N_check_alike : List Str := ["lot", "other"]
theorem sc_check_alike : FnScope N_check_alike ["lot", "other"] (defScope s_check_alike) := ⟨rfl, rfl, rfl, by decide +kernel, rfl, by decide +kernel, by decide +kernel⟩
def b_check_alike : En → Tree (Res Out) := (oSeqV (oCallV g_check_two (aCons (mVar 0) (aCons (mVar 1) aNil)))
  (oIfV (mC cNe (mA fLen (aCons (mPeek 0) aNil)) (mA fLen (aCons (mPeek 1) aNil)))
  (oRaise0 5)
  (oOk oNx)))
def g_check_alike : List D → Tree (Res D) := mDefV 2 2 b_check_alike
def f_check_alike : List D → Tree D := noV g_check_alike
/-! ### distance, level 10 -/
abbrev s_distance : Stmt := topS 56
abbrev N_distance : List Str := ["lot", "other"]
theorem sc_distance : FnScope N_distance ["lot", "other"] (defScope s_distance) := ⟨rfl, rfl, rfl, by decide +kernel, rfl, by decide +kernel, by decide +kernel⟩
def b_distance : En → Tree (Res Out) := (oSeqV (oCallV g_check_alike (aCons (mVar 0) (aCons (mVar 1) aNil)))
  (oOk (oRet (mA f_distance_of (aCons (mVar 0) (aCons (mVar 1) aNil))))))
def g_distance : List D → Tree (Res D) := mDefV 2 2 b_distance
def f_distance : List D → Tree D := noV g_distance
/-! ### showing, level 10 -/
abbrev s_showing : Stmt := topS 58
abbrev N_showing : List Str := ["lot", "other", "place", "one"]
theorem sc_showing : FnScope N_showing ["lot", "other"] (defScope s_showing) := ⟨rfl, rfl, rfl, by decide +kernel, rfl, by decide +kernel, by decide +kernel⟩
def b_showing : En → Tree (Res Out) := (oSeqV (oCallV g_check_alike (aCons (mVar 0) (aCons (mVar 1) aNil)))
  (oOk (oRet (mList (mLc (mEnum (mPeek 0)) [2, 3] (gTp 2 (gsCons (gPut 2) (gsCons (gPut 3) gsNil))) (mT (mA f_is_below (aCons (m2 opIx (mPeek 1) (mPeek 2)) (aCons (mVar 3) aNil)))) (mVar 2))))))
def g_showing : List D → Tree (Res D) := mDefV 2 4 b_showing
def f_showing : List D → Tree D := noV g_showing
/-! ### lesser, level 2 -/
abbrev s_lesser : Stmt := topS 28
abbrev N_lesser : List Str := ["one", "late"]
theorem sc_lesser : FnScope N_lesser ["one", "late"] (defScope s_lesser) := ⟨rfl, rfl, rfl, by decide +kernel, rfl, by decide +kernel, by decide +kernel⟩
def b_lesser : En → Tree Out := (oRet (mIf (mT (mA f_is_below (aCons (mVar 1) (aCons (mVar 0) aNil)))) (mVar 1) (mVar 0)))
def f_lesser : List D → Tree D := mDef 2 2 b_lesser
/-! ### first_left, level 1 -/
abbrev s_first_left : Stmt := topS 53
abbrev N_first_left : List Str := ["left", "place", "one"]
theorem sc_first_left : FnScope N_first_left ["left"] (defScope s_first_left) := ⟨rfl, rfl, rfl, by decide +kernel, rfl, by decide +kernel, by decide +kernel⟩
def b_first_left : En → Tree Out := (oSeq (oFor (mEnum (mVar 0)) (gTp 2 (gsCons (gPut 1) (gsCons (gPut 2) gsNil)))
  (oIf (mC cGt (m2 opIx (mPeek 2) (fun _ => .leaf (.int 0))) (fun _ => .leaf (.int 0)))
  (oRet (mVar 1))
  oNx))
  (oRet (fun _ => .leaf .non)))
def f_first_left : List D → Tree D := mDef 1 3 b_first_left
/-! ### put_along, level 4 -/
abbrev s_put_along : Stmt := topS 54
abbrev N_put_along : List Str := ["table", "left", "late", "row", "column", "one"]
theorem sc_put_along : FnScope N_put_along ["table", "left", "late"] (defScope s_put_along) := ⟨rfl, rfl, rfl, by decide +kernel, rfl, by decide +kernel, by decide +kernel⟩
def b_put_along : En → Tree Out := (oSeq (oPar 3 4 (aCons (mA f_first_left (aCons (mVar 1) aNil)) (aCons (mA f_first_left (aCons (mVar 2) aNil)) aNil)))
  (oWhile (mAnd (mC cNotN (mPeek 3) (fun _ => .leaf .non)) (mC cNotN (mPeek 4) (fun _ => .leaf .non)))
  (oSeq (oSet 5 (mA f_lesser (aCons (m2 opIx (mPeek 1) (mPeek 3)) (aCons (m2 opIx (mPeek 2) (mPeek 4)) aNil))))
  (oSeq (fun _ => .fail)
  (oSeq (fun _ => .fail)
  (oPar 3 4 (aCons (mA f_first_left (aCons (mVar 1) aNil)) (aCons (mA f_first_left (aCons (mVar 2) aNil)) aNil)))))) FUEL))
def f_put_along : List D → Tree D := mDef 3 6 b_put_along
/-! ### left_of, level 4 -/
abbrev s_left_of : Stmt := topS 52
abbrev N_left_of : List Str := ["lot", "part", "one", "late"]
theorem sc_left_of : FnScope N_left_of ["lot", "part"] (defScope s_left_of) := ⟨rfl, rfl, rfl, by decide +kernel, rfl, by decide +kernel, by decide +kernel⟩
def b_left_of : En → Tree Out := (oRet (mList (mLc (mZip (mPeek 0) (mPeek 1)) [2, 3] (gTp 2 (gsCons (gPut 2) (gsCons (gPut 3) gsNil))) tYesM (mA f_take (aCons (mVar 2) (aCons (mVar 3) aNil))))))
def f_left_of : List D → Tree D := mDef 2 4 b_left_of
/-! ### alike_table, level 5 -/
abbrev s_alike_table : Stmt := topS 55
abbrev N_alike_table : List Str := ["lot", "other", "one", "part", "place", "table", "late"]
theorem sc_alike_table : FnScope N_alike_table ["lot", "other"] (defScope s_alike_table) := ⟨rfl, rfl, rfl, by decide +kernel, rfl, by decide +kernel, by decide +kernel⟩
def bm_alike_table : MS := (msSeq (msAsg (meR (mList (mLc (mZip (mPeek 0) (mPeek 1)) [2, 6] (gTp 2 (gsCons (gPut 2) (gsCons (gPut 6) gsNil))) tYesM (mA f_lesser (aCons (mVar 2) (aCons (mVar 6) aNil)))))) (mgPut 3))
  (msSeq (msAsg (meLc (fun E S => ((mSeq (mVar 0)) (view0 E)).bind fun ds => .leaf (itD ds, S)) [4] (mtName 4) mYes (meL (mRepL (mList (mLst (aCons (fun _ => .leaf (.tup [(.int 0), (.int 1)])) aNil))) (mA fLen (aCons (mPeek 1) aNil))))) (mgPut 5))
  (msSeq (msFor (fun E S => ((mEnum (mVar 3)) (view0 E)).bind fun ds => .leaf (itD ds, S)) (mtTup 2 (mtCons (mtName 4) (mtCons (mtName 2) mtNil)))
  (msAsg (meVar 2) (mgSub (meIx (meVar 5) (meVar 4)) (meVar 4))))
  (msSeq (msEx (meR (mA f_put_along (aCons (mVar 5) (aCons (mA f_left_of (aCons (mVar 0) (aCons (mVar 3) aNil))) (aCons (mA f_left_of (aCons (mVar 1) (aCons (mVar 3) aNil))) aNil))))))
  (msRet (meVar 5))))))
def fm_alike_table : List MV → MSt → Tree (MV × MSt) := mDefM 2 7 bm_alike_table
def f_alike_table : List D → Tree D := stillM fm_alike_table
/-! ### alike_pairing, level 10 -/
abbrev s_alike_pairing : Stmt := topS 59
abbrev N_alike_pairing : List Str := ["lot", "other"]
theorem sc_alike_pairing : FnScope N_alike_pairing ["lot", "other"] (defScope s_alike_pairing) := ⟨rfl, rfl, rfl, by decide +kernel, rfl, by decide +kernel, by decide +kernel⟩
def b_alike_pairing : En → Tree (Res Out) := (oSeqV (oCallV g_check_alike (aCons (mVar 0) (aCons (mVar 1) aNil)))
  (oOk (oRet (mA f_alike_table (aCons (mVar 0) (aCons (mVar 1) aNil))))))
def g_alike_pairing : List D → Tree (Res D) := mDefV 2 2 b_alike_pairing
def f_alike_pairing : List D → Tree D := noV g_alike_pairing
/-! ### is_list, level 1 -/
abbrev s_is_list : Stmt := topS 15
abbrev N_is_list : List Str := ["value"]
theorem sc_is_list : FnScope N_is_list ["value"] (defScope s_is_list) := ⟨rfl, rfl, rfl, by decide +kernel, rfl, by decide +kernel, by decide +kernel⟩
def b_is_list : En → Tree Out := (oRet (mA fIsi (aCons (mPeek 0) (aCons (mTup (aCons (fun _ => .leaf (.ty "list")) (aCons (fun _ => .leaf (.ty "tuple")) aNil))) aNil))))
def f_is_list : List D → Tree D := mDef 1 1 b_is_list
/-! ### is_chance, level 3 -/
abbrev s_is_chance : Stmt := topS 46
abbrev N_is_chance : List Str := ["value"]
theorem sc_is_chance : FnScope N_is_chance ["value"] (defScope s_is_chance) := ⟨rfl, rfl, rfl, by decide +kernel, rfl, by decide +kernel, by decide +kernel⟩
def b_is_chance : En → Tree Out := (oRet (mAndV (mA f_is_fraction_of (aCons (mVar 0) aNil)) (mB (mC cGe (m2 opIx (mPeek 0) (fun _ => .leaf (.int 0))) (fun _ => .leaf (.int 0))))))
def f_is_chance : List D → Tree D := mDef 1 1 b_is_chance
/-! ### is_row, level 5 -/
abbrev s_is_row : Stmt := topS 45
abbrev N_is_row : List Str := ["own", "row", "one"]
theorem sc_is_row : FnScope N_is_row ["own", "row"] (defScope s_is_row) := ⟨rfl, rfl, rfl, by decide +kernel, rfl, by decide +kernel, by decide +kernel⟩
def b_is_row : En → Tree Out := (oRet (mAndV (mA fAll (aCons (mList (mLc (mSeq (mPeek 1)) [2] (gPut 2) tYesM (mA f_is_chance (aCons (mVar 2) aNil)))) aNil)) (mB (mC cEq (mA f_total (aCons (mVar 1) aNil)) (mPeek 0)))))
def f_is_row : List D → Tree D := mDef 2 3 b_is_row
/-! ### are_columns, level 5 -/
abbrev s_are_columns : Stmt := topS 47
abbrev N_are_columns : List Str := ["other", "value", "late", "own", "row"]
theorem sc_are_columns : FnScope N_are_columns ["other", "value"] (defScope s_are_columns) := ⟨rfl, rfl, rfl, by decide +kernel, rfl, by decide +kernel, by decide +kernel⟩
def b_are_columns : En → Tree Out := (oRet (mA fAll (aCons (mList (mLc (mEnum (mPeek 0)) [2, 3] (gTp 2 (gsCons (gPut 2) (gsCons (gPut 3) gsNil))) tYesM (mB (mC cEq (mA f_total (aCons (mList (mLc (mSeq (mPeek 1)) [4] (gPut 4) tYesM (m2 opIx (mPeek 4) (mPeek 2)))) aNil)) (mPeek 3))))) aNil)))
def f_are_columns : List D → Tree D := mDef 2 5 b_are_columns
/-! ### is_table_of, level 6 -/
abbrev s_is_table_of : Stmt := topS 44
abbrev N_is_table_of : List Str := ["lot", "other", "value", "row", "own"]
theorem sc_is_table_of : FnScope N_is_table_of ["lot", "other", "value"] (defScope s_is_table_of) := ⟨rfl, rfl, rfl, by decide +kernel, rfl, by decide +kernel, by decide +kernel⟩
def b_is_table_of : En → Tree Out := (oSeq (oIf (mOr (mNot (mT (mA f_is_list (aCons (mVar 2) aNil)))) (mC cNe (mA fLen (aCons (mPeek 2) aNil)) (mA fLen (aCons (mPeek 0) aNil))))
  (oRet (fun _ => .leaf (.bl false)))
  oNx)
  (oSeq (oIf (mNot (mT (mA fAll (aCons (mList (mLc (mSeq (mPeek 2)) [3] (gPut 3) tYesM (mAndV (mA f_is_list (aCons (mVar 3) aNil)) (mB (mC cEq (mA fLen (aCons (mPeek 3) aNil)) (mA fLen (aCons (mPeek 1) aNil))))))) aNil))))
  (oRet (fun _ => .leaf (.bl false)))
  oNx)
  (oRet (mAndV (mA fAll (aCons (mList (mLc (mZip (mPeek 0) (mPeek 2)) [4, 3] (gTp 2 (gsCons (gPut 4) (gsCons (gPut 3) gsNil))) tYesM (mA f_is_row (aCons (mVar 4) (aCons (mVar 3) aNil))))) aNil)) (mA f_are_columns (aCons (mVar 1) (aCons (mVar 2) aNil)))))))
def f_is_table_of : List D → Tree D := mDef 3 5 b_is_table_of
/-! ### is_nearest, level 10 -/
abbrev s_is_nearest : Stmt := topS 60
abbrev N_is_nearest : List Str := ["lot", "other", "value", "place", "row"]
theorem sc_is_nearest : FnScope N_is_nearest ["lot", "other", "value"] (defScope s_is_nearest) := ⟨rfl, rfl, rfl, by decide +kernel, rfl, by decide +kernel, by decide +kernel⟩
def b_is_nearest : En → Tree (Res Out) := (oSeqV (oCallV g_check_alike (aCons (mVar 0) (aCons (mVar 1) aNil)))
  (oSeqV (oOk (oIf (mNot (mT (mA f_is_table_of (aCons (mVar 0) (aCons (mVar 1) (aCons (mVar 2) aNil))))))
  (oRet (fun _ => .leaf (.bl false)))
  oNx))
  (oOk (oRet (mB (mC cEq (mA f_total (aCons (mList (mLc (mEnum (mPeek 2)) [3, 4] (gTp 2 (gsCons (gPut 3) (gsCons (gPut 4) gsNil))) tYesM (m2 opIx (mPeek 4) (mPeek 3)))) aNil)) (mA f_take (aCons (fun _ => .leaf (.tup [(.int 1), (.int 1)])) (aCons (mA f_distance_of (aCons (mVar 0) (aCons (mVar 1) aNil))) aNil)))))))))
def g_is_nearest : List D → Tree (Res D) := mDefV 3 5 b_is_nearest
def f_is_nearest : List D → Tree D := noV g_is_nearest
/-! ### least_of, level 3 -/
abbrev s_least_of : Stmt := topS 30
abbrev N_least_of : List Str := ["some", "found", "one"]
theorem sc_least_of : FnScope N_least_of ["some"] (defScope s_least_of) := ⟨rfl, rfl, rfl, by decide +kernel, rfl, by decide +kernel, by decide +kernel⟩
def b_least_of : En → Tree Out := (oSeq (oSet 1 (m2 opIx (mPeek 0) (fun _ => .leaf (.int 0))))
  (oSeq (oFor (mSeq (mCut (mPeek 0) (mPart (fun _ => .leaf (.int 1))) (fun _ => .leaf none))) (gPut 2)
  (oSet 1 (mA f_lesser (aCons (mVar 1) (aCons (mVar 2) aNil)))))
  (oRet (mVar 1))))
def f_least_of : List D → Tree D := mDef 1 3 b_least_of
/-! ### least_chances, level 4 -/
abbrev s_least_chances : Stmt := topS 62
abbrev N_least_chances : List Str := ["lots", "place", "lot"]
theorem sc_least_chances : FnScope N_least_chances ["lots"] (defScope s_least_chances) := ⟨rfl, rfl, rfl, by decide +kernel, rfl, by decide +kernel, by decide +kernel⟩
def b_least_chances : En → Tree Out := (oRet (mList (mLc (mRange1 (mA fLen (aCons (m2 opIx (mPeek 0) (fun _ => .leaf (.int 0))) aNil))) [1] (gPut 1) tYesM (mA f_least_of (aCons (mList (mLc (mSeq (mPeek 0)) [2] (gPut 2) tYesM (m2 opIx (mPeek 2) (mPeek 1)))) aNil)))))
def f_least_chances : List D → Tree D := mDef 1 3 b_least_chances
/-! ### check_lots, level 7 -/
abbrev s_check_lots : Stmt := topS 39
abbrev N_check_lots : List Str := ["value", "lot"]
theorem sc_check_lots : FnScope N_check_lots ["value"] (defScope s_check_lots) := ⟨rfl, rfl, rfl, by decide +kernel, rfl, by decide +kernel, by decide +kernel⟩
def b_check_lots : En → Tree (Res Out) := (oSeqV (oIfV (mOr (mNot (mT (mA f_is_list (aCons (mVar 0) aNil)))) (mOr (mNot (mCh cLe cLe (fun _ => .leaf (.int 1)) (mA fLen (aCons (mPeek 0) aNil)) (fun _ => .leaf (.int 6)))) (mNot (mT (mA fAll (aCons (mList (mLc (mSeq (mPeek 0)) [1] (gPut 1) tYesM (mA f_is_short_lot (aCons (mVar 1) aNil)))) aNil))))))
  (oRaiseA 3 (aCons (mVar 0) aNil))
  (oOk oNx))
  (oIfV (mNot (mT (mA fAll (aCons (mList (mLc (mSeq (mPeek 0)) [1] (gPut 1) tYesM (mB (mC cEq (mA fLen (aCons (mPeek 1) aNil)) (mA fLen (aCons (m2 opIx (mPeek 0) (fun _ => .leaf (.int 0))) aNil)))))) aNil))))
  (oRaiseA 3 (aCons (mVar 0) aNil))
  (oOk oNx)))
def g_check_lots : List D → Tree (Res D) := mDefV 1 2 b_check_lots
def f_check_lots : List D → Tree D := noV g_check_lots
/-! ### most_alike, level 8 -/
abbrev s_most_alike : Stmt := topS 68
abbrev N_most_alike : List Str := ["lots"]
theorem sc_most_alike : FnScope N_most_alike ["lots"] (defScope s_most_alike) := ⟨rfl, rfl, rfl, by decide +kernel, rfl, by decide +kernel, by decide +kernel⟩
def b_most_alike : En → Tree (Res Out) := (oSeqV (oCallV g_check_lots (aCons (mVar 0) aNil))
  (oOk (oRet (mA f_total (aCons (mA f_least_chances (aCons (mVar 0) aNil)) aNil)))))
def g_most_alike : List D → Tree (Res D) := mDefV 1 1 b_most_alike
def f_most_alike : List D → Tree D := noV g_most_alike
/-! ### joint_of, level 5 -/
abbrev s_joint_of : Stmt := topS 63
abbrev N_joint_of : List Str := ["lots", "part", "place", "one", "found", "left", "row", "places", "lot"]
theorem sc_joint_of : FnScope N_joint_of ["lots"] (defScope s_joint_of) := ⟨rfl, rfl, rfl, by decide +kernel, rfl, by decide +kernel, by decide +kernel⟩
def b_joint_of : En → Tree Out := (oSeq (oSet 1 (mA f_least_chances (aCons (mVar 0) aNil)))
  (oSeq (oOwn 4 (mLc (mEnum (mPeek 1)) [2, 3] (gTp 2 (gsCons (gPut 2) (gsCons (gPut 3) gsNil))) (mC cGt (m2 opIx (mPeek 3) (fun _ => .leaf (.int 0))) (fun _ => .leaf (.int 0))) (mTup (aCons (m2 opMul (mTup (aCons (mVar 2) aNil)) (mA fLen (aCons (mPeek 0) aNil))) (aCons (mVar 3) aNil)))))
  (oSeq (oSet 5 (mList (mLc (mSeq (mPeek 0)) [8] (gPut 8) tYesM (mA f_left_of (aCons (mVar 8) (aCons (mVar 1) aNil))))))
  (oSeq (oFrz 6 (oSet 7 (mA fTuple (aCons (mList (mLc (mSeq (mPeek 5)) [6] (gPut 6) tYesM (mA f_first_left (aCons (mVar 6) aNil)))) aNil))))
  (oSeq (oWhile (mC (cIn true) (fun _ => .leaf .non) (mPeek 7))
  (oSeq (oSet 3 (mA f_least_of (aCons (mList (mLc (mZip (mPeek 5) (mPeek 7)) [6, 2] (gTp 2 (gsCons (gPut 6) (gsCons (gPut 2) gsNil))) tYesM (m2 opIx (mPeek 6) (mPeek 2)))) aNil)))
  (oSeq (oApp 4 (mTup (aCons (mVar 7) (aCons (mVar 3) aNil))))
  (oSeq (oFor (mZip (mVar 5) (mVar 7)) (gTp 2 (gsCons (gPut 6) (gsCons (gPut 2) gsNil)))
  (oStore 6 (mPeek 2) (mA f_take (aCons (m2 opIx (mPeek 6) (mPeek 2)) (aCons (mVar 3) aNil)))))
  (oFrz 6 (oSet 7 (mA fTuple (aCons (mList (mLc (mSeq (mPeek 5)) [6] (gPut 6) tYesM (mA f_first_left (aCons (mVar 6) aNil)))) aNil))))))) FUEL)
  (oRet (mList (mSortedC (mPeek 4)))))))))
def f_joint_of : List D → Tree D := mDef 1 9 b_joint_of
/-! ### told_joint, level 8 -/
abbrev s_told_joint : Stmt := topS 69
abbrev N_told_joint : List Str := ["lots"]
theorem sc_told_joint : FnScope N_told_joint ["lots"] (defScope s_told_joint) := ⟨rfl, rfl, rfl, by decide +kernel, rfl, by decide +kernel, by decide +kernel⟩
def b_told_joint : En → Tree (Res Out) := (oSeqV (oCallV g_check_lots (aCons (mVar 0) aNil))
  (oOk (oRet (mA f_joint_of (aCons (mVar 0) aNil)))))
def g_told_joint : List D → Tree (Res D) := mDefV 1 1 b_told_joint
def f_told_joint : List D → Tree D := noV g_told_joint
/-! ### split_of, level 5 -/
abbrev s_split_of : Stmt := topS 67
abbrev N_split_of : List Str := ["lots", "least", "found", "place", "one", "position", "lot"]
theorem sc_split_of : FnScope N_split_of ["lots"] (defScope s_split_of) := ⟨rfl, rfl, rfl, by decide +kernel, rfl, by decide +kernel, by decide +kernel⟩
def b_split_of : En → Tree Out := (oSeq (oSet 1 (mA f_least_chances (aCons (mVar 0) aNil)))
  (oSeq (oOwn 2 (mLst aNil))
  (oSeq (oFor (mEnum (mVar 1)) (gTp 2 (gsCons (gPut 3) (gsCons (gPut 4) gsNil)))
  (oApp 2 (mA fMinL (aCons (mList (mLc (mEnum (mPeek 0)) [5, 6] (gTp 2 (gsCons (gPut 5) (gsCons (gPut 6) gsNil))) (mC cEq (m2 opIx (mPeek 6) (mPeek 3)) (mPeek 4)) (mVar 5))) aNil))))
  (oFrz 2 (oRet (mVar 2))))))
def f_split_of : List D → Tree D := mDef 1 7 b_split_of
/-! ### told_split, level 8 -/
abbrev s_told_split : Stmt := topS 72
abbrev N_told_split : List Str := ["lots"]
theorem sc_told_split : FnScope N_told_split ["lots"] (defScope s_told_split) := ⟨rfl, rfl, rfl, by decide +kernel, rfl, by decide +kernel, by decide +kernel⟩
def b_told_split : En → Tree (Res Out) := (oSeqV (oCallV g_check_lots (aCons (mVar 0) aNil))
  (oOk (oRet (mA f_split_of (aCons (mVar 0) aNil)))))
def g_told_split : List D → Tree (Res D) := mDefV 1 1 b_told_split
def f_told_split : List D → Tree D := noV g_told_split
/-! ### is_within, level 2 -/
abbrev s_is_within : Stmt := topS 14
abbrev N_is_within : List Str := ["value", "least", "most"]
theorem sc_is_within : FnScope N_is_within ["value", "least", "most"] (defScope s_is_within) := ⟨rfl, rfl, rfl, by decide +kernel, rfl, by decide +kernel, by decide +kernel⟩
def b_is_within : En → Tree Out := (oRet (mAndV (mA f_is_integer (aCons (mVar 0) aNil)) (mB (mCh cLe cLe (mPeek 1) (mPeek 0) (mPeek 2)))))
def f_is_within : List D → Tree D := mDef 3 3 b_is_within
/-! ### is_joint_row, level 3 -/
abbrev s_is_joint_row : Stmt := topS 64
abbrev N_is_joint_row : List Str := ["lots", "value", "place"]
theorem sc_is_joint_row : FnScope N_is_joint_row ["lots", "value"] (defScope s_is_joint_row) := ⟨rfl, rfl, rfl, by decide +kernel, rfl, by decide +kernel, by decide +kernel⟩
def b_is_joint_row : En → Tree Out := (oSeq (oIf (mOr (mNot (mT (mA fIsi (aCons (mPeek 1) (aCons (fun _ => .leaf (.ty "tuple")) aNil))))) (mOr (mC cNe (mA fLen (aCons (mPeek 1) aNil)) (fun _ => .leaf (.int 2))) (mOr (mNot (mT (mA f_is_fraction_of (aCons (m2 opIx (mPeek 1) (fun _ => .leaf (.int 1))) aNil)))) (mC cLtA (m2 opIx (m2 opIx (mPeek 1) (fun _ => .leaf (.int 1))) (fun _ => .leaf (.int 0))) (fun _ => .leaf (.int 1))))))
  (oRet (fun _ => .leaf (.bl false)))
  oNx)
  (oSeq (oIf (mOr (mNot (mT (mA fIsi (aCons (m2 opIx (mPeek 1) (fun _ => .leaf (.int 0))) (aCons (fun _ => .leaf (.ty "tuple")) aNil))))) (mC cNe (mA fLen (aCons (m2 opIx (mPeek 1) (fun _ => .leaf (.int 0))) aNil)) (mA fLen (aCons (mPeek 0) aNil))))
  (oRet (fun _ => .leaf (.bl false)))
  oNx)
  (oRet (mA fAll (aCons (mList (mLc (mSeq (m2 opIx (mPeek 1) (fun _ => .leaf (.int 0)))) [2] (gPut 2) tYesM (mA f_is_within (aCons (mVar 2) (aCons (fun _ => .leaf (.int 0)) (aCons (m2 opSub (mA fLen (aCons (m2 opIx (mPeek 0) (fun _ => .leaf (.int 0))) aNil)) (fun _ => .leaf (.int 1))) aNil)))))) aNil)))))
def f_is_joint_row : List D → Tree D := mDef 2 3 b_is_joint_row
/-! ### sums_at, level 4 -/
abbrev s_sums_at : Stmt := topS 65
abbrev N_sums_at : List Str := ["lots", "rows", "position", "found", "places", "one"]
theorem sc_sums_at : FnScope N_sums_at ["lots", "rows", "position"] (defScope s_sums_at) := ⟨rfl, rfl, rfl, by decide +kernel, rfl, by decide +kernel, by decide +kernel⟩
def b_sums_at : En → Tree Out := (oSeq (oOwn 3 (mRepL (mList (mLst (aCons (fun _ => .leaf (.tup [(.int 0), (.int 1)])) aNil))) (mA fLen (aCons (m2 opIx (mPeek 0) (fun _ => .leaf (.int 0))) aNil))))
  (oSeq (oFor (mSeq (mVar 1)) (gTp 2 (gsCons (gPut 4) (gsCons (gPut 5) gsNil)))
  (oStore 3 (m2 opIx (mPeek 4) (mPeek 2)) (mA f_add (aCons (m2 opIx (mPeek 3) (m2 opIx (mPeek 4) (mPeek 2))) (aCons (mVar 5) aNil)))))
  (oRet (mA fTuple (aCons (mPeek 3) aNil)))))
def f_sums_at : List D → Tree D := mDef 3 6 b_sums_at
/-! ### is_joint_of, level 5 -/
abbrev s_is_joint_of : Stmt := topS 66
abbrev N_is_joint_of : List Str := ["lots", "value", "position", "lot", "row", "late"]
theorem sc_is_joint_of : FnScope N_is_joint_of ["lots", "value"] (defScope s_is_joint_of) := ⟨rfl, rfl, rfl, by decide +kernel, rfl, by decide +kernel, by decide +kernel⟩
def b_is_joint_of : En → Tree Out := (oSeq (oIf (mOr (mNot (mT (mA f_is_list (aCons (mVar 1) aNil)))) (mNot (mT (mA fAll (aCons (mList (mLc (mSeq (mPeek 1)) [4] (gPut 4) tYesM (mA f_is_joint_row (aCons (mVar 0) (aCons (mVar 4) aNil))))) aNil)))))
  (oRet (fun _ => .leaf (.bl false)))
  oNx)
  (oSeq (oIf (mNot (mT (mA fAll (aCons (mList (mLc (mZip (mPeek 1) (mCut (mPeek 1) (mPart (fun _ => .leaf (.int 1))) (fun _ => .leaf none))) [4, 5] (gTp 2 (gsCons (gPut 4) (gsCons (gPut 5) gsNil))) tYesM (mB (mC cLtA (m2 opIx (mPeek 4) (fun _ => .leaf (.int 0))) (m2 opIx (mPeek 5) (fun _ => .leaf (.int 0))))))) aNil))))
  (oRet (fun _ => .leaf (.bl false)))
  oNx)
  (oRet (mA fAll (aCons (mList (mLc (mEnum (mPeek 0)) [2, 3] (gTp 2 (gsCons (gPut 2) (gsCons (gPut 3) gsNil))) tYesM (mB (mC cEq (mA f_sums_at (aCons (mVar 0) (aCons (mVar 1) (aCons (mVar 2) aNil)))) (mPeek 3))))) aNil)))))
def f_is_joint_of : List D → Tree D := mDef 2 6 b_is_joint_of
/-! ### is_joint, level 8 -/
abbrev s_is_joint : Stmt := topS 70
abbrev N_is_joint : List Str := ["lots", "value"]
theorem sc_is_joint : FnScope N_is_joint ["lots", "value"] (defScope s_is_joint) := ⟨rfl, rfl, rfl, by decide +kernel, rfl, by decide +kernel, by decide +kernel⟩
def b_is_joint : En → Tree (Res Out) := (oSeqV (oCallV g_check_lots (aCons (mVar 0) aNil))
  (oOk (oRet (mA f_is_joint_of (aCons (mVar 0) (aCons (mVar 1) aNil))))))
def g_is_joint : List D → Tree (Res D) := mDefV 2 2 b_is_joint
def f_is_joint : List D → Tree D := noV g_is_joint
/-! ### has_of, level 5 -/
abbrev s_has_of : Stmt := topS 42
abbrev N_has_of : List Str := ["lot", "places", "place"]
theorem sc_has_of : FnScope N_has_of ["lot", "places"] (defScope s_has_of) := ⟨rfl, rfl, rfl, by decide +kernel, rfl, by decide +kernel, by decide +kernel⟩
def b_has_of : En → Tree Out := (oRet (mA f_total (aCons (mList (mLc (mSeq (mPeek 1)) [2] (gPut 2) tYesM (m2 opIx (mPeek 0) (mPeek 2)))) aNil)))
def f_has_of : List D → Tree D := mDef 2 3 b_has_of
/-! ### are_places, level 3 -/
abbrev s_are_places : Stmt := topS 40
abbrev N_are_places : List Str := ["many", "value", "one"]
theorem sc_are_places : FnScope N_are_places ["many", "value"] (defScope s_are_places) := ⟨rfl, rfl, rfl, by decide +kernel, rfl, by decide +kernel, by decide +kernel⟩
def b_are_places : En → Tree Out := (oSeq (oIf (mOr (mNot (mT (mA f_is_list (aCons (mVar 1) aNil)))) (mNot (mT (mA fAll (aCons (mList (mLc (mSeq (mPeek 1)) [2] (gPut 2) tYesM (mA f_is_within (aCons (mVar 2) (aCons (fun _ => .leaf (.int 0)) (aCons (m2 opSub (mPeek 0) (fun _ => .leaf (.int 1))) aNil)))))) aNil)))))
  (oRet (fun _ => .leaf (.bl false)))
  oNx)
  (oRet (mB (mC cEq (m1 fLenSetE (mPeek 1)) (mA fLen (aCons (mPeek 1) aNil))))))
def f_are_places : List D → Tree D := mDef 2 3 b_are_places
/-! ### check_places, level 4 -/
abbrev s_check_places : Stmt := topS 41
abbrev N_check_places : List Str := ["many", "value"]
theorem sc_check_places : FnScope N_check_places ["many", "value"] (defScope s_check_places) := ⟨rfl, rfl, rfl, by decide +kernel, rfl, by decide +kernel, by decide +kernel⟩
def b_check_places : En → Tree (Res Out) := (oIfV (mNot (mT (mA f_are_places (aCons (mVar 0) (aCons (mVar 1) aNil)))))
  (oRaiseA 4 (aCons (mVar 1) aNil))
  (oOk oNx))
def g_check_places : List D → Tree (Res D) := mDefV 2 2 b_check_places
def f_check_places : List D → Tree D := noV g_check_places
/-! ### gap, level 9 -/
abbrev s_gap : Stmt := topS 57
abbrev N_gap : List Str := ["lot", "other", "places"]
theorem sc_gap : FnScope N_gap ["lot", "other", "places"] (defScope s_gap) := ⟨rfl, rfl, rfl, by decide +kernel, rfl, by decide +kernel, by decide +kernel⟩
def b_gap : En → Tree (Res Out) := (oSeqV (oCallV g_check_two (aCons (mVar 0) (aCons (mVar 1) aNil)))
  (oSeqV (oCallV g_check_places (aCons (mA fLen (aCons (mPeek 0) aNil)) (aCons (mVar 2) aNil)))
  (oSeqV (oIfV (mC cNe (mA fLen (aCons (mPeek 0) aNil)) (mA fLen (aCons (mPeek 1) aNil)))
  (oRaise0 5)
  (oOk oNx))
  (oOk (oRet (mA f_take (aCons (mA f_has_of (aCons (mVar 0) (aCons (mVar 2) aNil))) (aCons (mA f_has_of (aCons (mVar 1) (aCons (mVar 2) aNil))) aNil))))))))
def g_gap : List D → Tree (Res D) := mDefV 3 3 b_gap
def f_gap : List D → Tree D := noV g_gap
/-! ### alike_part, level 8 -/
abbrev s_alike_part : Stmt := topS 71
abbrev N_alike_part : List Str := ["lots", "joint", "places", "one"]
theorem sc_alike_part : FnScope N_alike_part ["lots", "joint"] (defScope s_alike_part) := ⟨rfl, rfl, rfl, by decide +kernel, rfl, by decide +kernel, by decide +kernel⟩
def b_alike_part : En → Tree (Res Out) := (oSeqV (oCallV g_check_lots (aCons (mVar 0) aNil))
  (oSeqV (oIfV (mNot (mT (mA f_is_joint_of (aCons (mVar 0) (aCons (mVar 1) aNil)))))
  (oRaiseA 0 (aCons (mVar 1) aNil))
  (oOk oNx))
  (oOk (oRet (mA f_total (aCons (mList (mLc (mSeq (mPeek 1)) [2, 3] (gTp 2 (gsCons (gPut 2) (gsCons (gPut 3) gsNil))) (mC cEq (m1 fLenSetE (mPeek 2)) (fun _ => .leaf (.int 1))) (mVar 3))) aNil))))))
def g_alike_part : List D → Tree (Res D) := mDefV 2 4 b_alike_part
def f_alike_part : List D → Tree D := noV g_alike_part
/-! ### check_fraction, level 4 -/
abbrev s_check_fraction : Stmt := topS 19
abbrev N_check_fraction : List Str := ["value"]
theorem sc_check_fraction : FnScope N_check_fraction ["value"] (defScope s_check_fraction) := ⟨rfl, rfl, rfl, by decide +kernel, rfl, by decide +kernel, by decide +kernel⟩
def b_check_fraction : En → Tree (Res Out) := (oIfV (mNot (mT (mA f_is_short (aCons (mVar 0) aNil))))
  (oRaiseA 1 (aCons (mVar 0) aNil))
  (oOk oNx))
def g_check_fraction : List D → Tree (Res D) := mDefV 1 1 b_check_fraction
def f_check_fraction : List D → Tree D := noV g_check_fraction
/-! ### is_split, level 8 -/
abbrev s_is_split : Stmt := topS 73
abbrev N_is_split : List Str := ["lots", "fraction", "value", "position", "place"]
theorem sc_is_split : FnScope N_is_split ["lots", "fraction", "value"] (defScope s_is_split) := ⟨rfl, rfl, rfl, by decide +kernel, rfl, by decide +kernel, by decide +kernel⟩
def b_is_split : En → Tree (Res Out) := (oSeqV (oCallV g_check_lots (aCons (mVar 0) aNil))
  (oSeqV (oCallV g_check_fraction (aCons (mVar 1) aNil))
  (oSeqV (oOk (oIf (mOr (mNot (mT (mA f_is_list (aCons (mVar 2) aNil)))) (mC cNe (mA fLen (aCons (mPeek 2) aNil)) (mA fLen (aCons (m2 opIx (mPeek 0) (fun _ => .leaf (.int 0))) aNil))))
  (oRet (fun _ => .leaf (.bl false)))
  oNx))
  (oSeqV (oOk (oIf (mNot (mT (mA fAll (aCons (mList (mLc (mSeq (mPeek 2)) [3] (gPut 3) tYesM (mA f_is_within (aCons (mVar 3) (aCons (fun _ => .leaf (.int 0)) (aCons (m2 opSub (mA fLen (aCons (mPeek 0) aNil)) (fun _ => .leaf (.int 1))) aNil)))))) aNil))))
  (oRet (fun _ => .leaf (.bl false)))
  oNx))
  (oOk (oRet (mA f_is_below (aCons (mA f_total (aCons (mList (mLc (mEnum (mPeek 2)) [4, 3] (gTp 2 (gsCons (gPut 4) (gsCons (gPut 3) gsNil))) tYesM (m2 opIx (m2 opIx (mPeek 0) (mPeek 3)) (mPeek 4)))) aNil)) (aCons (mVar 1) aNil)))))))))
def g_is_split : List D → Tree (Res D) := mDefV 3 5 b_is_split
def f_is_split : List D → Tree D := noV g_is_split
def cf_0 : En → Tree (Res D) := mCloCall g_distance (aCons (mVar 1) (aCons (mVar 0) aNil))
def cf_1 : En → Tree (Res D) := mCloCall (fun ds => g_showing (permD [1, 0] ds)) (aCons (mVar 0) (aCons (mVar 1) aNil))
def cf_2 : En → Tree (Res D) := mCloCall g_alike_pairing (aCons (mVar 1) (aCons (mVar 0) aNil))
def cf_3 : En → Tree (Res D) := mCloCall (fun ds => g_is_nearest (permD [2, 1, 0] ds)) (aCons (fun _ => .leaf .non) (aCons (mVar 0) (aCons (mVar 1) aNil)))
def cf_4 : En → Tree (Res D) := mCloCall g_most_alike (aCons (mVar 0) aNil)
def cf_5 : En → Tree (Res D) := mCloCall (fun ds => g_told_joint (permD [0] ds)) (aCons (mVar 0) aNil)
def cf_6 : En → Tree (Res D) := mCloCall g_told_split (aCons (mVar 0) aNil)
def cf_7 : En → Tree (Res D) := mCloCall g_is_joint (aCons (mVar 0) (aCons (fun _ => .leaf .non) aNil))
def cf_8 : En → Tree (Res D) := mCloCall g_gap (aCons (mVar 0) (aCons (fun _ => .leaf .non) (aCons (fun _ => .leaf .non) aNil)))
def cf_9 : En → Tree (Res D) := mCloCall (fun ds => g_gap (permD [2, 1, 0] ds)) (aCons (fun _ => .leaf .non) (aCons (mVar 0) (aCons (mVar 1) aNil)))
def cf_10 : En → Tree (Res D) := mCloCall g_alike_part (aCons (mVar 0) (aCons (fun _ => .leaf .non) aNil))
def cf_11 : En → Tree (Res D) := mCloCall g_is_split (aCons (mVar 0) (aCons (fun _ => .leaf .non) (aCons (fun _ => .leaf .non) aNil)))
def cf_12 : En → Tree (Res D) := mCloCall (fun ds => g_alike_part (permD [1, 0] ds)) (aCons (fun _ => .leaf .non) (aCons (mVar 0) aNil))
def cf_13 : En → Tree (Res D) := mCloCall g_is_split (aCons (mVar 0) (aCons (fun _ => .leaf .non) (aCons (fun _ => .leaf .non) aNil)))
def cf_14 : En → Tree (Res D) := mCloCall g_gap (aCons (mVar 1) (aCons (mVar 1) (aCons (mList (mLst (aCons (mVar 0) aNil))) aNil)))
def cf_15 : En → Tree (Res D) := mCloCall g_gap (aCons (mVar 1) (aCons (mVar 0) (aCons (mList (mLst (aCons (fun _ => .leaf (.int 0)) aNil))) aNil)))
def cf_16 : En → Tree (Res D) := mCloCall g_gap (aCons (mVar 1) (aCons (mVar 1) (aCons (mVar 0) aNil)))
def cf_17 : En → Tree (Res D) := mCloCall (fun ds => g_gap (permD [2, 1, 0] ds)) (aCons (mVar 1) (aCons (mVar 0) (aCons (mVar 2) aNil)))
def cf_18 : En → Tree (Res D) := mCloCall g_is_split (aCons (mList (mLst (aCons (mVar 1) aNil))) (aCons (mVar 0) (aCons (fun _ => .leaf .non) aNil)))
def cf_19 : En → Tree (Res D) := mCloCall (fun ds => g_is_split (permD [2, 1, 0] ds)) (aCons (fun _ => .leaf .non) (aCons (mVar 0) (aCons (mList (mLst (aCons (mVar 1) aNil))) aNil)))
def cf_20 : En → Tree (Res D) := mCloCall g_alike_part (aCons (mList (mLst (aCons (mVar 1) aNil))) (aCons (mVar 0) aNil))
def cf_21 : En → Tree (Res D) := mCloCall (fun ds => g_alike_part (permD [1, 0] ds)) (aCons (mVar 0) (aCons (mList (mLst (aCons (mVar 1) aNil))) aNil))
def cf_22 : En → Tree (Res D) := mCloCall g_gap (aCons (mVar 0) (aCons (mVar 0) (aCons (mTup aNil) aNil)))
def cf_23 : En → Tree (Res D) := mCloCall g_gap (aCons (mVar 0) (aCons (mVar 0) (aCons (mList (mLst (aCons (fun _ => .leaf (.int 7)) (aCons (fun _ => .leaf (.int 0)) (aCons (fun _ => .leaf (.int 3)) aNil))))) aNil)))
def cf_24 : En → Tree (Res D) := mCloCall g_is_split (aCons (mList (mLst (aCons (mVar 0) aNil))) (aCons (mTup (aCons (m2 opSub (fun _ => .leaf (.int 0)) (mPeek 1)) (aCons (fun _ => .leaf (.int 1)) aNil))) (aCons (fun _ => .leaf .non) aNil)))
def cf_25 : En → Tree (Res D) := mCloCall g_is_split (aCons (m2 opMul (mList (mLst (aCons (mVar 0) aNil))) (fun _ => .leaf (.int 6))) (aCons (mTup (aCons (fun _ => .leaf (.int 1)) (aCons (mVar 1) aNil))) (aCons (mList (mLst (aCons (fun _ => .leaf (.int 5)) (aCons (fun _ => .leaf (.int 0)) aNil)))) aNil)))
def cf_26 : En → Tree (Res D) := mCloCall g_alike_part (aCons (m2 opMul (mList (mLst (aCons (mVar 0) aNil))) (fun _ => .leaf (.int 6))) (aCons (mA f_told_joint (aCons (m2 opMul (mList (mLst (aCons (mVar 0) aNil))) (fun _ => .leaf (.int 6))) aNil)) aNil))
def cfs : List (En → Tree (Res D)) := [cf_0, cf_1, cf_2, cf_3, cf_4, cf_5, cf_6, cf_7, cf_8, cf_9, cf_10, cf_11, cf_12, cf_13, cf_14, cf_15, cf_16, cf_17, cf_18, cf_19, cf_20, cf_21, cf_22, cf_23, cf_24, cf_25, cf_26]
/-! ### _law_heard, level 13 -/
abbrev s_law_heard : Stmt := topS 78
abbrev N_law_heard : List Str := ["call", "told", "value", "is_kin", "e"]
theorem sc_law_heard : FnScope N_law_heard ["call"] (defScope s_law_heard) := ⟨rfl, rfl, rfl, by decide +kernel, rfl, by decide +kernel, by decide +kernel⟩
def b_law_heard : En → Tree Out := (oSeq (oAsg (mTup (aCons (fun _ => .leaf (.str "let")) (aCons (fun _ => .leaf (.str "")) (aCons (fun _ => .leaf (.bl true)) aNil)))) (gTp 3 (gsCons (gPut 1) (gsCons (gPut 2) (gsCons (gPut 3) gsNil)))))
  (oSeq (oTryV (mClo 0 cfs) (mtOf MTlaw_heard) [(4, (suPar3 1 2 3 (suCons (suOf (fun _ => .leaf (.str "lots"))) (suCons (mReprV2 NV) (suCons (mIsV IT_ChanceError) suNil))))),
  (4, (suPar3 1 2 3 (suCons (suOf (fun _ => .leaf (.str "lot"))) (suCons (mReprV2 NV) (suCons (mIsV IT_ChanceError) suNil))))),
  (4, (suPar3 1 2 3 (suCons (suOf (fun _ => .leaf (.str "places"))) (suCons (mReprV2 NV) (suCons (mIsV IT_ChanceError) suNil))))),
  (4, (suPar3 1 2 3 (suCons (suOf (fun _ => .leaf (.str "joint"))) (suCons (mReprV2 NV) (suCons (mIsV IT_ValueError) suNil))))),
  (4, (suPar3 1 2 3 (suCons (suOf (fun _ => .leaf (.str "fraction"))) (suCons (mReprV2 NV) (suCons (mIsV IT_ChanceError) suNil))))),
  (4, (suPar3 1 2 3 (suCons (suOf (fun _ => .leaf (.str "unlike"))) (suCons (suOf (fun _ => .leaf (.str ""))) (suCons (mIsV IT_StateError) suNil)))))])
  (oRet (mList (mLst (aCons (mVar 1) (aCons (mVar 2) (aCons (mVar 3) aNil))))))))
def f_law_heard : List D → Tree D := mDef 1 5 b_law_heard
/-! ### _law_are, level 14 -/
abbrev s_law_are : Stmt := topS 79
abbrev N_law_are : List Str := ["calls", "told", "value", "call"]
theorem sc_law_are : FnScope N_law_are ["calls", "told", "value"] (defScope s_law_are) := ⟨rfl, rfl, rfl, by decide +kernel, rfl, by decide +kernel, by decide +kernel⟩
def b_law_are : En → Tree Out := (oSeq (oFor (mSeq (mVar 0)) (gPut 3)
  (oIf (mC cNe (mA f_law_heard (aCons (mVar 3) aNil)) (mList (mLst (aCons (mVar 1) (aCons (mVar 2) (aCons (fun _ => .leaf (.bl true)) aNil))))))
  (oRet (fun _ => .leaf (.bl false)))
  oNx))
  (oRet (fun _ => .leaf (.bl true))))
def f_law_are : List D → Tree D := mDef 3 4 b_law_are
/-! ### _law_two_calls, level 1 -/
abbrev s_law_two_calls : Stmt := topS 80
abbrev N_law_two_calls : List Str := ["lot", "other", "calls"]
theorem sc_law_two_calls : FnScope N_law_two_calls ["lot", "other"] (defScope s_law_two_calls) := ⟨rfl, rfl, rfl, by decide +kernel, rfl, by decide +kernel, by decide +kernel⟩
def b_law_two_calls : En → Tree (List D) := (oCallsK 2 (fun _ => lineOk 1 (.leaf [.loc 0 [1, 0]]))
  (oMoreK 1 [1, 0]
  (oMoreK 2 [1, 0]
  (oMoreK 3 [1, 0]
  oRetK))))
def f_law_two_calls : List D → Tree (List D) := mDefK 2 3 b_law_two_calls
/-! ### _law_lots_calls, level 1 -/
abbrev s_law_lots_calls : Stmt := topS 81
abbrev N_law_lots_calls : List Str := ["lots", "calls"]
theorem sc_law_lots_calls : FnScope N_law_lots_calls ["lots"] (defScope s_law_lots_calls) := ⟨rfl, rfl, rfl, by decide +kernel, rfl, by decide +kernel, by decide +kernel⟩
def b_law_lots_calls : En → Tree (List D) := (oCallsK 1 (fun _ => lineOk 1 (.leaf [.loc 4 [0]]))
  (oMoreK 5 [0]
  (oMoreK 6 [0]
  (oMoreK 7 [0]
  oRetK))))
def f_law_lots_calls : List D → Tree (List D) := mDefK 1 2 b_law_lots_calls
/-! ### _law_lots_right, level 15 -/
abbrev s_law_lots_right : Stmt := topS 82
abbrev N_law_lots_right : List Str := ["lot", "odds", "fine", "calls", "bad", "many", "odd"]
theorem sc_law_lots_right : FnScope N_law_lots_right ["lot"] (defScope s_law_lots_right) := ⟨rfl, rfl, rfl, by decide +kernel, rfl, by decide +kernel, by decide +kernel⟩
def b_law_lots_right : En → Tree Out := (oSeq (oSet 5 (mA fLen (aCons (mPeek 0) aNil)))
  (oSeq (oSet 1 (mList (mLst (aCons (fun _ => .leaf .non) (aCons (fun _ => .leaf (.int 0)) (aCons (mTup aNil) (aCons (mList (mLst aNil)) (aCons (mList (mListOf (mPeek 0))) (aCons (m2 opAdd (mPeek 0) (mTup (aCons (mTup (aCons (fun _ => .leaf (.int 1)) (aCons (fun _ => .leaf (.int 9)) aNil))) aNil))) (aCons (mTup (aCons (mTup (aCons (fun _ => .leaf (.int 1)) (aCons (fun _ => .leaf (.int 2)) aNil))) (aCons (mTup (aCons (fun _ => .leaf (.int 1)) (aCons (fun _ => .leaf (.int 3)) aNil))) aNil))) (aCons (mTup (aCons (mTup (aCons (fun _ => .leaf (.int 2)) (aCons (fun _ => .leaf (.int 2)) aNil))) aNil)) (aCons (mTup (aCons (mTup (aCons (fun _ => .leaf (.int 1)) (aCons (fun _ => .leaf (.int 1)) aNil))) (aCons (fun _ => .leaf (.int 0)) aNil))) (aCons (mTup (aCons (mTup (aCons (fun _ => .leaf (.int 3)) (aCons (fun _ => .leaf (.int 2)) aNil))) (aCons (mTup (aCons (m1 opNeg (fun _ => .leaf (.int 1))) (aCons (fun _ => .leaf (.int 2)) aNil))) aNil))) (aCons (m2 opMul (mTup (aCons (mTup (aCons (fun _ => .leaf (.int 1)) (aCons (fun _ => .leaf (.int 9)) aNil))) aNil)) (fun _ => .leaf (.int 9))) (aCons (fun _ => .leaf (.str "lot")) (aCons (mTup (aCons (mTup (aCons (fun _ => .leaf (.bl true)) (aCons (fun _ => .leaf (.int 1)) aNil))) aNil)) aNil))))))))))))))))
  (oSeq (oSet 2 (m2 opAdd (m2 opPow (fun _ => .leaf (.int 10)) (fun _ => .leaf (.int 12))) (fun _ => .leaf (.int 1))))
  (oSeq (oSet 1 (m2 opAdd (mPeek 1) (mList (mLst (aCons (mTup (aCons (mTup (aCons (fun _ => .leaf (.int 1)) (aCons (mVar 2) aNil))) (aCons (mTup (aCons (m2 opSub (mPeek 2) (fun _ => .leaf (.int 1))) (aCons (mVar 2) aNil))) aNil))) (aCons (mTup (aCons (mTup (aCons (fun _ => .leaf (.int 1)) (aCons (fun _ => .leaf (.int 2)) aNil))) (aCons (mTup (aCons (fun _ => .leaf (.int 1)) (aCons (fun _ => .leaf (.int 2)) aNil))) (aCons (mTup (aCons (fun _ => .leaf (.int 0)) (aCons (fun _ => .leaf (.int 2)) aNil))) aNil)))) (aCons (fun _ => .leaf .dct) (aCons (mTup (aCons (mTup (aCons (fun _ => .leaf (.int 1)) (aCons (fun _ => .leaf (.int 1)) aNil))) (aCons (mTup (aCons (fun _ => .leaf (.int 0)) (aCons (fun _ => .leaf (.int 1)) aNil))) (aCons (fun _ => .leaf .non) aNil)))) aNil))))))))
  (oSeq (oFor (mSeq (mVar 1)) (gPut 6)
  (oCalls 3 (mAddCl (mStill (mAL f_law_two_calls (aCons (mVar 6) (aCons (fun _ => .leaf .non) aNil)))) (mStill (mAL f_law_two_calls (aCons (mVar 0) (aCons (mVar 6) aNil)))))
  (oMore 8 [6]
  (oMore 9 [6, 0]
  (oIfB f_law_are (aCons (fun _ => .leaf (.str "lot")) (aCons (mA fRepr2 (aCons (mPeek 6) aNil)) aNil))
  (oSeq (oSet 4 (mList (mLst (aCons (mVar 0) (aCons (mVar 6) aNil)))))
  (oCalls 3 (mStill (mAL f_law_lots_calls (aCons (mVar 4) aNil)))
  (oMore 10 [4]
  (oMore 11 [4]
  (oIfB f_law_are (aCons (fun _ => .leaf (.str "lots")) (aCons (mA fRepr2 (aCons (mPeek 4) aNil)) aNil))
  oNx))))))))))
  (oSeq (oFor (mSeq (mList (mLst (aCons (fun _ => .leaf .non) (aCons (fun _ => .leaf (.int 0)) (aCons (mTup aNil) (aCons (mList (mLst aNil)) (aCons (fun _ => .leaf .dct) (aCons (fun _ => .leaf (.str "lots")) (aCons (mVar 0) (aCons (m2 opMul (mList (mLst (aCons (mVar 0) aNil))) (fun _ => .leaf (.int 7))) (aCons (mList (mLst (aCons (mVar 0) (aCons (m2 opAdd (mPeek 0) (mTup (aCons (mTup (aCons (fun _ => .leaf (.int 0)) (aCons (fun _ => .leaf (.int 1)) aNil))) aNil))) aNil)))) (aCons (mList (mLst (aCons (fun _ => .leaf .non) aNil))) aNil))))))))))))) (gPut 6)
  (oCalls 3 (mStill (mAL f_law_lots_calls (aCons (mVar 6) aNil)))
  (oMore 12 [6]
  (oMore 13 [6]
  (oIfB f_law_are (aCons (fun _ => .leaf (.str "lots")) (aCons (mA fRepr2 (aCons (mPeek 6) aNil)) aNil))
  oNx)))))
  (oRet (mCap f_law_are (fun _ => lineOk 1 (.leaf [.loc 14 [5, 0]])) (aCons (fun _ => .leaf (.str "places")) (aCons (mA fRepr2 (aCons (mList (mLst (aCons (mVar 5) aNil))) aNil)) aNil))))))))))
def f_law_lots_right : List D → Tree D := mDef 1 7 b_law_lots_right
/-! ### _law_rest_right, level 15 -/
abbrev s_law_rest_right : Stmt := topS 83
abbrev N_law_rest_right : List Str := ["lot", "many", "calls", "odd", "other"]
theorem sc_law_rest_right : FnScope N_law_rest_right ["lot"] (defScope s_law_rest_right) := ⟨rfl, rfl, rfl, by decide +kernel, rfl, by decide +kernel, by decide +kernel⟩
def b_law_rest_right : En → Tree Out := (oSeq (oSet 1 (mA fLen (aCons (mPeek 0) aNil)))
  (oSeq (oSet 4 (m2 opAdd (mPeek 0) (mTup (aCons (mTup (aCons (fun _ => .leaf (.int 0)) (aCons (fun _ => .leaf (.int 1)) aNil))) aNil))))
  (oSeq (oIf (mNot (mT (mCap f_law_are (mAddCl (mAddCl (mStill (mAL f_law_two_calls (aCons (mVar 0) (aCons (mVar 4) aNil)))) (mStill (mAL f_law_two_calls (aCons (mVar 4) (aCons (mVar 0) aNil))))) (fun _ => lineOk 1 (.leaf [.loc 15 [4, 0]]))) (aCons (fun _ => .leaf (.str "unlike")) (aCons (fun _ => .leaf (.str "")) aNil)))))
  (oRet (fun _ => .leaf (.bl false)))
  oNx)
  (oSeq (oFor (mSeq (mList (mLst (aCons (fun _ => .leaf .non) (aCons (fun _ => .leaf (.int 0)) (aCons (fun _ => .leaf .dct) (aCons (fun _ => .leaf (.str "0")) (aCons (mList (mLst (aCons (fun _ => .leaf (.int 0)) (aCons (fun _ => .leaf (.int 0)) aNil)))) (aCons (mList (mLst (aCons (mVar 1) aNil))) (aCons (mList (mLst (aCons (m1 opNeg (fun _ => .leaf (.int 1))) aNil))) (aCons (mList (mLst (aCons (fun _ => .leaf (.bl true)) aNil))) (aCons (mList (mLst (aCons (fun _ => .leaf (.str "0")) aNil))) (aCons (mList (mLst (aCons (fun _ => .leaf .non) aNil))) (aCons (mList (mLst (aCons (mList (mLst (aCons (fun _ => .leaf (.int 0)) aNil))) aNil))) (aCons (mTup (aCons (fun _ => .leaf (.int 0)) (aCons (mVar 1) aNil))) aNil))))))))))))))) (gPut 3)
  (oCalls 2 (fun _ => lineOk 1 (.leaf [.loc 16 [3, 0]]))
  (oMore 17 [4, 3, 0]
  (oIfB f_law_are (aCons (fun _ => .leaf (.str "places")) (aCons (mA fRepr2 (aCons (mPeek 3) aNil)) aNil))
  oNx))))
  (oSeq (oFor (mSeq (mList (mLst (aCons (fun _ => .leaf .non) (aCons (fun _ => .leaf (.int 0)) (aCons (mTup (aCons (fun _ => .leaf (.int 1)) (aCons (fun _ => .leaf (.int 0)) aNil))) (aCons (mTup (aCons (fun _ => .leaf (.int 2)) (aCons (fun _ => .leaf (.int 4)) aNil))) (aCons (mTup (aCons (fun _ => .leaf (.int 0)) (aCons (fun _ => .leaf (.int 2)) aNil))) (aCons (mTup (aCons (fun _ => .leaf (.int 1)) (aCons (m1 opNeg (fun _ => .leaf (.int 2))) aNil))) (aCons (mList (mLst (aCons (fun _ => .leaf (.int 1)) (aCons (fun _ => .leaf (.int 2)) aNil)))) (aCons (fun _ => .leaf (.str "1")) (aCons (mTup (aCons (fun _ => .leaf (.bl true)) (aCons (fun _ => .leaf (.int 1)) aNil))) (aCons (mTup (aCons (m2 opPow (fun _ => .leaf (.int 10)) (fun _ => .leaf (.int 12))) (aCons (fun _ => .leaf (.int 1)) aNil))) (aCons (mTup (aCons (fun _ => .leaf (.int 1)) (aCons (m2 opPow (fun _ => .leaf (.int 10)) (fun _ => .leaf (.int 12))) aNil))) (aCons (mTup (aCons (fun _ => .leaf (.int 1)) (aCons (fun _ => .leaf (.int 2)) (aCons (fun _ => .leaf (.int 3)) aNil)))) aNil))))))))))))))) (gPut 3)
  (oCalls 2 (fun _ => lineOk 1 (.leaf [.loc 18 [3, 0]]))
  (oMore 19 [3, 0]
  (oIfB f_law_are (aCons (fun _ => .leaf (.str "fraction")) (aCons (mA fRepr2 (aCons (mPeek 3) aNil)) aNil))
  oNx))))
  (oSeq (oFor (mSeq (mList (mLst (aCons (fun _ => .leaf .non) (aCons (fun _ => .leaf (.int 0)) (aCons (mList (mLst aNil)) (aCons (mTup aNil) (aCons (fun _ => .leaf .dct) (aCons (mList (mLst (aCons (fun _ => .leaf .non) aNil))) (aCons (mList (mLst (aCons (mTup (aCons (mTup (aCons (fun _ => .leaf (.int 0)) aNil)) (aCons (mTup (aCons (fun _ => .leaf (.int 1)) (aCons (fun _ => .leaf (.int 2)) aNil))) aNil))) aNil))) (aCons (mList (mLst (aCons (mTup (aCons (mTup (aCons (fun _ => .leaf (.int 0)) aNil)) (aCons (mTup (aCons (fun _ => .leaf (.int 1)) (aCons (fun _ => .leaf (.int 1)) aNil))) aNil))) (aCons (mTup (aCons (mTup (aCons (fun _ => .leaf (.int 0)) aNil)) (aCons (mTup (aCons (fun _ => .leaf (.int 1)) (aCons (fun _ => .leaf (.int 1)) aNil))) aNil))) aNil)))) (aCons (mList (mLst (aCons (mTup (aCons (mTup (aCons (mVar 1) aNil)) (aCons (mTup (aCons (fun _ => .leaf (.int 1)) (aCons (fun _ => .leaf (.int 1)) aNil))) aNil))) aNil))) (aCons (mList (mLst (aCons (mTup (aCons (mList (mLst (aCons (fun _ => .leaf (.int 0)) aNil))) (aCons (mTup (aCons (fun _ => .leaf (.int 1)) (aCons (fun _ => .leaf (.int 1)) aNil))) aNil))) aNil))) (aCons (fun _ => .leaf (.str "joint")) aNil)))))))))))))) (gPut 3)
  (oCalls 2 (fun _ => lineOk 1 (.leaf [.loc 20 [3, 0]]))
  (oMore 21 [3, 0]
  (oIfB f_law_are (aCons (fun _ => .leaf (.str "joint")) (aCons (mA fRepr2 (aCons (mPeek 3) aNil)) aNil))
  oNx))))
  (oRet (fun _ => .leaf (.bl true)))))))))
def f_law_rest_right : List D → Tree D := mDef 1 5 b_law_rest_right
/-! ### _law_let_right, level 15 -/
abbrev s_law_let_right : Stmt := topS 84
abbrev N_law_let_right : List Str := ["pot", "lot", "calls", "odd", "made", "fine", "thin", "wide", "one"]
theorem sc_law_let_right : FnScope N_law_let_right ["pot", "lot"] (defScope s_law_let_right) := ⟨rfl, rfl, rfl, by decide +kernel, rfl, by decide +kernel, by decide +kernel⟩
def b_law_let_right : En → Tree Out := (oSeq (oSet 5 (m2 opSub (m2 opPow (fun _ => .leaf (.int 10)) (fun _ => .leaf (.int 12))) (fun _ => .leaf (.int 1))))
  (oSeq (oAsg (mTup (aCons (m2 opMul (mTup (aCons (mTup (aCons (fun _ => .leaf (.int 1)) (aCons (fun _ => .leaf (.int 8)) aNil))) aNil)) (fun _ => .leaf (.int 8))) (aCons (mTup (aCons (mTup (aCons (fun _ => .leaf (.int 1)) (aCons (mVar 5) aNil))) (aCons (mTup (aCons (m2 opSub (mPeek 5) (fun _ => .leaf (.int 1))) (aCons (mVar 5) aNil))) aNil))) aNil))) (gTp 2 (gsCons (gPut 7) (gsCons (gPut 6) gsNil))))
  (oCalls 2 (mAddCl (mAddCl (mAddCl (mStill (mAL f_law_two_calls (aCons (mVar 7) (aCons (mVar 7) aNil)))) (mStill (mAL f_law_two_calls (aCons (mVar 6) (aCons (mVar 6) aNil))))) (mStill (mAL f_law_lots_calls (aCons (m2 opMul (mList (mLst (aCons (mVar 7) aNil))) (fun _ => .leaf (.int 6))) aNil)))) (mStill (mAL f_law_lots_calls (aCons (mTup (aCons (mVar 1) aNil)) aNil))))
  (oMore 22 [1]
  (oMore 23 [7]
  (oMore 24 [1, 5]
  (oMore 25 [6, 5]
  (oMore 26 [7]
  (oIfB f_law_are (aCons (fun _ => .leaf (.str "let")) (aCons (fun _ => .leaf (.str "")) aNil))
  (oSeq (oSet 3 (mA f_law_pick (aCons (mVar 0) (aCons (mList (mLst (aCons (fun _ => .leaf .non) (aCons (fun _ => .leaf (.int 0)) (aCons (fun _ => .leaf (.bl true)) (aCons (fun _ => .leaf (.str "x")) (aCons (mList (mLst (aCons (fun _ => .leaf (.int 1)) aNil))) (aCons (mTup (aCons (fun _ => .leaf (.int 1)) aNil)) (aCons (fun _ => .leaf .dct) aNil))))))))) aNil))))
  (oSeq (oSet 4 (mList (mLst (aCons (mInst CA_InvalidJoint (aCons (mVar 3) aNil)) (aCons (mInst CA_InvalidJoint (aCons (mVar 3) aNil)) (aCons (mInst CA_InvalidLots (aCons (mVar 3) aNil)) (aCons (mInst CA_InvalidLots (aCons (mVar 3) aNil)) (aCons (mInst CA_InvalidPlaces (aCons (mVar 3) aNil)) aNil))))))))
  (oSeq (oIf (mOr (mC cNe (mA fRepr2 (aCons (mList (mLc (mSeq (mPeek 4)) [8] (gPut 8) tYesM (mVal VALCS (mVar 8)))) aNil)) (mA fRepr2 (aCons (m2 opMul (mList (mLst (aCons (mVar 3) aNil))) (fun _ => .leaf (.int 5))) aNil))) (mNot (mT (mA fAll (aCons (mList (mLc (mSeq (mPeek 4)) [8] (gPut 8) tYesM (mIsI CLSA IT_ChanceError (mVar 8)))) aNil)))))
  (oRet (fun _ => .leaf (.bl false)))
  oNx)
  (oSeq (oIf (mT (mA fAny (aCons (mList (mLc (mSeq (mPeek 4)) [8] (gPut 8) tYesM (mIsI CLSA ITT_0 (mVar 8)))) aNil)))
  (oRet (fun _ => .leaf (.bl false)))
  oNx)
  (oRet (mB (mC cEq (mA fRepr2 (aCons (mList (mLst (aCons (mA f_is_nearest (aCons (mVar 1) (aCons (mVar 1) (aCons (fun _ => .leaf .non) aNil)))) (aCons (mA f_is_joint (aCons (mList (mLst (aCons (mVar 1) aNil))) (aCons (fun _ => .leaf .non) aNil))) (aCons (mA f_is_split (aCons (mList (mLst (aCons (mVar 1) aNil))) (aCons (mTup (aCons (fun _ => .leaf (.int 1)) (aCons (fun _ => .leaf (.int 2)) aNil))) (aCons (fun _ => .leaf .non) aNil)))) aNil))))) aNil)) (mA fRepr2 (aCons (m2 opMul (mList (mLst (aCons (fun _ => .leaf (.bl false)) aNil))) (fun _ => .leaf (.int 3))) aNil))))))))))))))))))
def f_law_let_right : List D → Tree D := mDef 2 9 b_law_let_right
/-! ### _law_right, level 16 -/
abbrev s_law_right : Stmt := topS 85
abbrev N_law_right : List Str := ["pot", "lot"]
theorem sc_law_right : FnScope N_law_right ["pot"] (defScope s_law_right) := ⟨rfl, rfl, rfl, by decide +kernel, rfl, by decide +kernel, by decide +kernel⟩
def b_law_right : En → Tree Out := (oSeq (oSet 1 (mA f_law_pick (aCons (mVar 0) (aCons (mList (mLst (aCons (mTup (aCons (mTup (aCons (fun _ => .leaf (.int 1)) (aCons (fun _ => .leaf (.int 1)) aNil))) aNil)) (aCons (mTup (aCons (mTup (aCons (fun _ => .leaf (.int 1)) (aCons (fun _ => .leaf (.int 2)) aNil))) (aCons (mTup (aCons (fun _ => .leaf (.int 1)) (aCons (fun _ => .leaf (.int 2)) aNil))) aNil))) (aCons (mTup (aCons (mTup (aCons (fun _ => .leaf (.int 1)) (aCons (fun _ => .leaf (.int 3)) aNil))) (aCons (mTup (aCons (fun _ => .leaf (.int 0)) (aCons (fun _ => .leaf (.int 1)) aNil))) (aCons (mTup (aCons (fun _ => .leaf (.int 2)) (aCons (fun _ => .leaf (.int 3)) aNil))) aNil)))) aNil))))) aNil))))
  (oRet (mAndV (mA f_law_lots_right (aCons (mVar 1) aNil)) (mAndV (mA f_law_rest_right (aCons (mVar 1) aNil)) (mA f_law_let_right (aCons (mVar 0) (aCons (mVar 1) aNil)))))))
def f_law_right : List D → Tree D := mDef 1 2 b_law_right
/-! ### _law_pot, level 1 -/
abbrev s_law_pot : Stmt := topS 75
abbrev N_law_pot : List Str := ["script", "k", "cell"]
theorem sc_law_pot : FnScope N_law_pot ["script", "k"] (defScope s_law_pot) := ⟨rfl, rfl, rfl, by decide +kernel, rfl, by decide +kernel, by decide +kernel⟩
def b_law_pot : En → Tree Out := (oSeq (oSet 2 (m2 opAdd (m2 opMul (fun _ => .leaf (.int 1753)) (mPeek 1)) (fun _ => .leaf (.int 1123))))
  (oSeq (oIf (mC cLtA (mPeek 1) (mA fLen (aCons (mPeek 0) aNil)))
  (oSet 2 (mA fAbs (aCons (m2 opIx (mPeek 0) (mPeek 1)) aNil)))
  oNx)
  (oPot (mLst (aCons (mA fMax2 (aCons (fun _ => .leaf (.int 0)) (aCons (m2 opSub (mPeek 2) (m2 opPow (fun _ => .leaf (.int 10)) (fun _ => .leaf (.int 18)))) aNil))) (aCons (m2 opAdd (m2 opMod (mA fInt (aCons (m2 opAdd (m2 opAdd (m2 opMul (m2 opMod (mA fInt (aCons (mPeek 2) aNil)) (fun _ => .leaf (.int 2147483549))) (fun _ => .leaf (.int 40692))) (m2 opMul (fun _ => .leaf (.int 1753)) (mPeek 1))) (fun _ => .leaf (.int 1123))) aNil)) (fun _ => .leaf (.int 2147483563))) (fun _ => .leaf (.int 1))) aNil))))))
def f_law_pot : List D → Tree D := mDef 2 3 b_law_pot
/-! ### law, level 17 -/
abbrev s_law : Stmt := topS 86
abbrev N_law : List Str := ["script"]
theorem sc_law : FnScope N_law ["script"] (defScope s_law) := ⟨rfl, rfl, rfl, by decide +kernel, rfl, by decide +kernel, by decide +kernel⟩
def b_law : En → Tree Out := (oRet (mA f_law_right (aCons (mA f_law_pot (aCons (mVar 0) (aCons (fun _ => .leaf (.int 0)) aNil))) aNil)))
def f_law : List D → Tree D := mDef 1 1 b_law
section
variable {P : Program} {w : World} {K : PySem.W.Frag} {mg : Str → Option Value} {base : Heap}
theorem ok_law_draw (nb : Nb mg) : ∀ f fd, Fun K "_law_draw" "_law_draw" s_law_draw f fd → FnG P w K mg base 1 f fd ["pot", "many"] (spF K f_law_draw) := fun f fd F => by
  refine FnG.of (F.ok sc_law_draw (fun vs H Q E h => fDraw_len vs H Q E h) (fun cdv A outer s H vs Q E hr h => ?_))
  obtain ⟨a, n, p, q, rfl, hp, h0, h1, h2, h3, h4, fin⟩ := fDraw_of h
  refine ⟨_, pss_cons (ps_if (pt_cmpR op_gt (pe_ix ix_list (pv 0) pe_int (fun _ _ => rfl)) pe_int (nomark _))
      (pss_cons (ps_asg (pe_callB call_divmodW (by rfl) nb.b_divmod (by decide +kernel) (pa_cons (pe_ix ix_list (pv 0) pe_int (fun _ _ => rfl)) (pa_cons (pv 1) pa_nil)))
        (pg_tup rfl (pgs_cons (pg_sub (pv 0) pe_int set_list) (pgs_cons (pg_name (i := 2) sc_law_draw.nd rfl (.inl rfl)) pgs_nil)))) (pss_one (ps_ret (pv 2)))) pss_nil)
    (pss_cons (ps_asg (pe_op op_mod (pe_callTy call_int1 (by rfl) nb.b_int (by decide +kernel) (pa_cons (pe_op op_add (pe_op op_mul (pe_ix ix_list (pv 0) pe_int (fun _ _ => rfl)) pe_int) pe_int) pa_nil)) pe_int) (pg_sub (pv 0) pe_int set_list))
    (pss_one (ps_ret (pe_op op_mod (pe_callTy call_int1 (by rfl) nb.b_int (by decide +kernel) (pa_cons (pe_op op_fdiv (pe_op op_mod (pe_callTy call_int1 (by rfl) nb.b_int (by decide +kernel) (pa_cons (pe_op op_mul (pe_ix ix_list (pv 0) pe_int (fun _ _ => rfl)) (pe_ix ix_list (pv 0) pe_int (fun _ _ => rfl))) pa_nil)) pe_int) pe_int) pa_nil)) (pv 1))))), ?_⟩
  refine ⟨.ref a, rfl, a, _, 0, .int p, rfl, rfl, .of hp, rfl, p, 0, rfl, rfl, _, rfl, ite2 (fun e => ?_) (fun e => ?_)⟩
  · have hpos : 0 < p := of_decide_eq_true e
    refine ⟨.ref a, rfl, a, _, 0, .int p, rfl, rfl, .of hp, rfl, .int n, rfl, p, n, rfl, ⟨h3, R.noPy h4⟩, fun T nT => ?_⟩
    have ne : a ≠ T := ne_of_none hp nT
    refine ⟨T, _, rfl, .of upd_same, rfl, .int (p / n), _, rfl, ⟨.ref a, rfl, a, _, 0, 0, rfl, rfl, by rw [upd_ne ne]; exact hp, rfl, ?_⟩⟩
    refine ⟨.int (p % n), [], rfl, ⟨rfl, .int (p % n), rfl, ?_⟩⟩
    exact fin _ (p / n) q (p % n) (Int.ediv_nonneg h0 (by omega)) h1 h2 (Int.emod_nonneg _ (by omega)) (Int.emod_lt_of_pos _ h3) ⟨T, _, .inl ⟨rfl, nT⟩⟩
  · refine ⟨.ref a, rfl, a, _, 1, .int q, rfl, rfl, .of hp, rfl, q, _, rfl, rfl, .inl ⟨by omega, by omega⟩, _, _, rfl, rfl, .inl ⟨_, rfl, _, _, rfl, rfl, (by show (0 : Int) < _; decide), .ref a, rfl, a, _, 1, 1, rfl, rfl, hp, rfl, ?_⟩⟩
    rw [show ((fun i j => V.int (i % j)) (q * 40014 + 2473) 2147483587 : V) = V.int ((q * 40014 + 2473) % 2147483587) from rfl]
    generalize hq : (q * 40014 + 2473) % 2147483587 = q'
    have b1 : 0 ≤ q' := by rw [← hq]; exact Int.emod_nonneg _ (by decide)
    have b2 : q' < 4294967296 := by rw [← hq]; exact Int.lt_trans (Int.emod_lt_of_pos _ (by decide)) (by decide)
    refine ⟨.ref a, rfl, a, _, 1, .int q', rfl, rfl, .of upd_same, rfl, .ref a, rfl, a, _, 1, .int q', rfl, rfl, .of upd_same, rfl, q', q', rfl, rfl, .inl ⟨by omega, by omega⟩, .inl ⟨_, rfl, _, _, rfl, rfl, (by show (0 : Int) < _; decide), _, _, rfl, rfl, ⟨by decide, by decide⟩, .inl ⟨_, rfl, .int n, rfl, _, n, rfl, rfl, h3, ?_⟩⟩⟩
    exact fin _ p q' _ h0 b1 b2 (Int.emod_nonneg _ (by omega)) (Int.emod_lt_of_pos _ h3) ⟨a, .lst [], .inr rfl⟩

theorem ok_law_pick (c_law_draw : CalG P w K mg base 1 "_law_draw" f_law_draw) (nb : Nb mg) : ∀ f fd, Fun K "_law_pick" "_law_pick" s_law_pick f fd → FnG P w K mg base 2 f fd ["pot", "some"] (spF K f_law_pick) := fun f fd F => def_okG (m := b_law_pick) 2 2 F sc_law_pick rfl rfl fun cdv A outer s H E hcv hG hr =>
  (ss_one (s_ret (se_ix ix_seq o2_ix (sp_var (pv 1)) (SE.sp (se_cG c_law_draw hG hr (by decide) (by rfl) (sa_cons (se_var (pv 0)) (sa_cons (se_bi cr_len f1_len (by rfl) nb.b_len (by decide +kernel) (spa_cons (sp_var (pv 1)) spa_nil)) sa_nil)))) (fun _ _ => rfl))))
theorem ok_divisor (nb : Nb mg) : ∀ f fd, Fun K "divisor" "divisor" s_divisor f fd → FnOk P w K mg base CX0 1 f fd ["one", "late"] (spF K f_divisor) := fun f fd F => def_ok (m := b_divisor) 2 2 F sc_divisor rfl rfl fun cdv A outer s H E hr =>
  (ss_cons (s_while FUEL (fun hc hb => ps_while PassesOwn.never hc hb) (st_cmp op_gt c2_int (sp_var (pv 1)) (SE.sp se_int) (nomark _))
  (ss_one (s_par (ps_par (by rfl) sc_divisor.nd rfl rfl (by decide) rfl rfl (SA.pa (sa_cons (se_var (pv 1)) (sa_cons (se_op op_mod o2_mod (SE.sp (se_bt call_int1 f1_int (by rfl) nb.b_int (by decide +kernel) (spa_cons (sp_var (pv 0)) spa_nil))) (sp_var (pv 1))) sa_nil))) (by rfl)) (fun _ _ _ h => h))))
  (ss_one (s_ret (se_var (pv 0)))))
theorem ok_reduced (r_divisor : CalR P w K mg base 1 "divisor" f_divisor) (nb : Nb mg) : ∀ f fd, Fun K "reduced" "reduced" s_reduced f fd → FnOk P w K mg base CX0 2 f fd ["top", "bottom"] (spF K f_reduced) := fun f fd F => def_ok (m := b_reduced) 2 3 F sc_reduced rfl rfl fun cdv A outer s H E hr =>
  (ss_cons (s_if (st_cmp (op_ltA (room65 hr)) c2_ltA (sp_var (pv 1)) (SE.sp se_int) (nomark _))
  (ss_one (s_par (ps_par (by rfl) sc_reduced.nd rfl rfl (by decide) rfl rfl (SA.pa (sa_cons (se_op op_sub o2_sub (SE.sp se_int) (sp_var (pv 0))) (sa_cons (se_op op_sub o2_sub (SE.sp se_int) (sp_var (pv 1))) sa_nil))) (by rfl)) (fun _ _ _ h => h)))
  ss_nil)
  (ss_cons (s_asg (ps_set (i := 2) sc_reduced.nd rfl (by first | exact .inl rfl | exact .inr rfl) (SE.pe (se_c r_divisor hr (by decide) (by rfl) (sa_cons (se_bi call_abs f1_abs (by rfl) nb.b_abs (by decide +kernel) (spa_cons (sp_var (pv 0)) spa_nil)) (sa_cons (se_var (pv 1)) sa_nil))))) (fun _ _ _ h => h))
  (ss_one (s_ret (se_tup (sa_cons (se_op op_fdivW o2_div (sp_var (pv 0)) (sp_var (pv 2))) (sa_cons (se_op op_fdivW o2_div (sp_var (pv 1)) (sp_var (pv 2))) sa_nil)))))))
theorem ok_divide (r_reduced : CalR P w K mg base 2 "reduced" f_reduced) : ∀ f fd, Fun K "divide" "divide" s_divide f fd → FnOk P w K mg base CX0 3 f fd ["one", "late"] (spF K f_divide) := fun f fd F => def_ok (m := b_divide) 2 2 F sc_divide rfl rfl fun cdv A outer s H E hr =>
  (ss_one (s_ret (se_c r_reduced hr (by decide) (by rfl) (sa_cons (se_op or_mul o2_mul (SE.sp (se_ix ix_seq o2_ix (sp_var (pv 0)) (SE.sp se_int) (fun _ _ => rfl))) (SE.sp (se_ix ix_seq o2_ix (sp_var (pv 1)) (SE.sp se_int) (fun _ _ => rfl)))) (sa_cons (se_op or_mul o2_mul (SE.sp (se_ix ix_seq o2_ix (sp_var (pv 0)) (SE.sp se_int) (fun _ _ => rfl))) (SE.sp (se_ix ix_seq o2_ix (sp_var (pv 1)) (SE.sp se_int) (fun _ _ => rfl)))) sa_nil)))))
theorem ok_add (r_reduced : CalR P w K mg base 2 "reduced" f_reduced) : ∀ f fd, Fun K "add" "add" s_add f fd → FnOk P w K mg base CX0 3 f fd ["one", "late"] (spF K f_add) := fun f fd F => def_ok (m := b_add) 2 2 F sc_add rfl rfl fun cdv A outer s H E hr =>
  (ss_one (s_ret (se_c r_reduced hr (by decide) (by rfl) (sa_cons (se_op or_add o2_add (SE.sp (se_op or_mul o2_mul (SE.sp (se_ix ix_seq o2_ix (sp_var (pv 0)) (SE.sp se_int) (fun _ _ => rfl))) (SE.sp (se_ix ix_seq o2_ix (sp_var (pv 1)) (SE.sp se_int) (fun _ _ => rfl))))) (SE.sp (se_op or_mul o2_mul (SE.sp (se_ix ix_seq o2_ix (sp_var (pv 1)) (SE.sp se_int) (fun _ _ => rfl))) (SE.sp (se_ix ix_seq o2_ix (sp_var (pv 0)) (SE.sp se_int) (fun _ _ => rfl)))))) (sa_cons (se_op or_mul o2_mul (SE.sp (se_ix ix_seq o2_ix (sp_var (pv 0)) (SE.sp se_int) (fun _ _ => rfl))) (SE.sp (se_ix ix_seq o2_ix (sp_var (pv 1)) (SE.sp se_int) (fun _ _ => rfl)))) sa_nil)))))
theorem ok_total (r_add : CalR P w K mg base 3 "add" f_add) (k_NOUGHT : ConR K mg "NOUGHT" (.tup [(.int 0), (.int 1)])) : ∀ f fd, Fun K "total" "total" s_total f fd → FnOk P w K mg base CX0 4 f fd ["some"] (spF K f_total) := fun f fd F => def_ok (m := b_total) 1 3 F sc_total rfl rfl fun cdv A outer s H E hr =>
  (ss_cons (s_asg (ps_set (i := 1) sc_total.nd rfl (by first | exact .inl rfl | exact .inr rfl) (SE.pe (se_con k_NOUGHT (by rfl)))) (fun _ _ _ h => h))
  (ss_cons (s_for PassesOwn.never rfl (si_seq (se_var (pv 0))) (sg_name (pg_name (i := 2) sc_total.nd rfl (by first | exact .inl rfl | exact .inr rfl)))
  (ss_one (s_asg (ps_set (i := 1) sc_total.nd rfl (by first | exact .inl rfl | exact .inr rfl) (SE.pe (se_c r_add hr (by decide) (by rfl) (sa_cons (se_var (pv 1)) (sa_cons (se_var (pv 2)) sa_nil))))) (fun _ _ _ h => h))))
  (ss_one (s_ret (se_var (pv 1))))))
theorem ok_is_below : ∀ f fd, Fun K "is_below" "is_below" s_is_below f fd → FnOk P w K mg base CX0 1 f fd ["one", "late"] (spF K f_is_below) := fun f fd F => def_ok (m := b_is_below) 2 2 F sc_is_below rfl rfl fun cdv A outer s H E hr =>
  (ss_one (s_ret (se_cmp (op_ltA (room65 hr)) c2_ltA (SE.sp (se_op or_mul o2_mul (SE.sp (se_ix ix_seq o2_ix (sp_var (pv 0)) (SE.sp se_int) (fun _ _ => rfl))) (SE.sp (se_ix ix_seq o2_ix (sp_var (pv 1)) (SE.sp se_int) (fun _ _ => rfl))))) (SE.sp (se_op or_mul o2_mul (SE.sp (se_ix ix_seq o2_ix (sp_var (pv 1)) (SE.sp se_int) (fun _ _ => rfl))) (SE.sp (se_ix ix_seq o2_ix (sp_var (pv 0)) (SE.sp se_int) (fun _ _ => rfl))))) (nomark _))))
theorem ok_take (r_reduced : CalR P w K mg base 2 "reduced" f_reduced) : ∀ f fd, Fun K "take" "take" s_take f fd → FnOk P w K mg base CX0 3 f fd ["one", "late"] (spF K f_take) := fun f fd F => def_ok (m := b_take) 2 2 F sc_take rfl rfl fun cdv A outer s H E hr =>
  (ss_one (s_ret (se_c r_reduced hr (by decide) (by rfl) (sa_cons (se_op op_sub o2_sub (SE.sp (se_op or_mul o2_mul (SE.sp (se_ix ix_seq o2_ix (sp_var (pv 0)) (SE.sp se_int) (fun _ _ => rfl))) (SE.sp (se_ix ix_seq o2_ix (sp_var (pv 1)) (SE.sp se_int) (fun _ _ => rfl))))) (SE.sp (se_op or_mul o2_mul (SE.sp (se_ix ix_seq o2_ix (sp_var (pv 1)) (SE.sp se_int) (fun _ _ => rfl))) (SE.sp (se_ix ix_seq o2_ix (sp_var (pv 0)) (SE.sp se_int) (fun _ _ => rfl)))))) (sa_cons (se_op or_mul o2_mul (SE.sp (se_ix ix_seq o2_ix (sp_var (pv 0)) (SE.sp se_int) (fun _ _ => rfl))) (SE.sp (se_ix ix_seq o2_ix (sp_var (pv 1)) (SE.sp se_int) (fun _ _ => rfl)))) sa_nil)))))
theorem ok_far_apart (r_is_below : CalR P w K mg base 1 "is_below" f_is_below) (r_take : CalR P w K mg base 3 "take" f_take) : ∀ f fd, Fun K "far_apart" "far_apart" s_far_apart f fd → FnOk P w K mg base CX0 4 f fd ["one", "late"] (spF K f_far_apart) := fun f fd F => def_ok (m := b_far_apart) 2 2 F sc_far_apart rfl rfl fun cdv A outer s H E hr =>
  (ss_one (s_ret (se_if (st_val (SE.sp (se_c r_is_below hr (by decide) (by rfl) (sa_cons (se_var (pv 0)) (sa_cons (se_var (pv 1)) sa_nil))))) (se_c r_take hr (by decide) (by rfl) (sa_cons (se_var (pv 1)) (sa_cons (se_var (pv 0)) sa_nil))) (se_c r_take hr (by decide) (by rfl) (sa_cons (se_var (pv 0)) (sa_cons (se_var (pv 1)) sa_nil))))))
theorem ok_distance_of (r_divide : CalR P w K mg base 3 "divide" f_divide) (r_total : CalR P w K mg base 4 "total" f_total) (r_far_apart : CalR P w K mg base 4 "far_apart" f_far_apart) (k_TWO : ConR K mg "TWO" (.tup [(.int 2), (.int 1)])) (nb : Nb mg) : ∀ f fd, Fun K "distance_of" "distance_of" s_distance_of f fd → FnOk P w K mg base CX0 5 f fd ["lot", "other"] (spF K f_distance_of) := fun f fd F => def_ok (m := b_distance_of) 2 4 F sc_distance_of rfl rfl fun cdv A outer s H E hr =>
  (ss_one (s_ret (se_c r_divide hr (by decide) (by rfl) (sa_cons (se_c r_total hr (by decide) (by rfl) (sa_cons (SL.se (sl_lc (own := [("one", 2), ("late", 3)]) rfl sc_distance_of.nd (sip_zip (by rfl) nb.b_zip (sp_var (pv 0)) (sp_var (pv 1))) (blkOk_by (N := N_distance_of) (sc := (defScope s_distance_of)) (by decide +kernel)) (fun _ _ _ _ _ => (sg_tup rfl (sgs_cons (sg_name (pg_name (i := 2) sc_distance_of.nd rfl (by first | exact .inl rfl | exact .inr rfl))) (sgs_cons (sg_name (pg_name (i := 3) sc_distance_of.nd rfl (by first | exact .inl rfl | exact .inr rfl))) sgs_nil)))) (fun _ _ _ _ _ => sts_nil) (fun _ _ _ _ _ => (se_c r_far_apart hr (by decide) (by rfl) (sa_cons (se_var (pv 2)) (sa_cons (se_var (pv 3)) sa_nil)))) (by decide))) sa_nil)) (sa_cons (se_con k_TWO (by rfl)) sa_nil)))))
theorem ok_is_integer (nb : Nb mg) : ∀ f fd, Fun K "is_integer" "is_integer" s_is_integer f fd → FnOk P w K mg base CX0 1 f fd ["value"] (spF K f_is_integer) := fun f fd F => def_ok (m := b_is_integer) 1 1 F sc_is_integer rfl rfl fun cdv A outer s H E hr =>
  (ss_one (s_ret (se_and (se_bi cr_isi f1_isi (by rfl) nb.b_isinstance (by decide +kernel) (spa_cons (sp_var (pv 0)) (spa_cons (SE.sp (se_ty (by rfl) nb.b_int (by decide +kernel))) spa_nil))) (se_one (se_not (se_bi cr_isi f1_isi (by rfl) nb.b_isinstance (by decide +kernel) (spa_cons (sp_var (pv 0)) (spa_cons (SE.sp (se_ty (by rfl) nb.b_bool (by decide +kernel))) spa_nil))))))))
theorem ok_is_fraction_of (r_is_integer : CalR P w K mg base 1 "is_integer" f_is_integer) (r_divisor : CalR P w K mg base 1 "divisor" f_divisor) (nb : Nb mg) : ∀ f fd, Fun K "is_fraction_of" "is_fraction_of" s_is_fraction_of f fd → FnOk P w K mg base CX0 2 f fd ["value"] (spF K f_is_fraction_of) := fun f fd F => def_ok (m := b_is_fraction_of) 1 1 F sc_is_fraction_of rfl rfl fun cdv A outer s H E hr =>
  (ss_cons (s_if (SW.st (sw_or (st_not (st_val (SE.sp (se_bi cr_isi f1_isi (by rfl) nb.b_isinstance (by decide +kernel) (spa_cons (sp_var (pv 0)) (spa_cons (SE.sp (se_ty (by rfl) nb.b_tuple (by decide +kernel))) spa_nil)))))) (sw_or (st_cmp (op_neD hr.units) c2_ne (SE.sp (se_bi cr_len f1_len (by rfl) nb.b_len (by decide +kernel) (spa_cons (sp_var (pv 0)) spa_nil))) (SE.sp se_int) (nomark _)) (sw_or (st_not (st_val (SE.sp (se_c r_is_integer hr (by decide) (by rfl) (sa_cons (se_ix ix_seq o2_ix (sp_var (pv 0)) (SE.sp se_int) (fun _ _ => rfl)) sa_nil))))) (sw_or1 (st_not (st_val (SE.sp (se_c r_is_integer hr (by decide) (by rfl) (sa_cons (se_ix ix_seq o2_ix (sp_var (pv 0)) (SE.sp se_int) (fun _ _ => rfl)) sa_nil))))))))))
  (ss_one (s_ret se_bl))
  ss_nil)
  (ss_one (s_ret (se_and (se_cmp op_ge c2_int (SE.sp (se_ix ix_seq o2_ix (sp_var (pv 0)) (SE.sp se_int) (fun _ _ => rfl))) (SE.sp se_int) (nomark _)) (se_one (se_cmp (op_eqD hr.units) c2_eq (SE.sp (se_c r_divisor hr (by decide) (by rfl) (sa_cons (se_bi call_abs f1_abs (by rfl) nb.b_abs (by decide +kernel) (spa_cons (SE.sp (se_ix ix_seq o2_ix (sp_var (pv 0)) (SE.sp se_int) (fun _ _ => rfl))) spa_nil)) (sa_cons (se_ix ix_seq o2_ix (sp_var (pv 0)) (SE.sp se_int) (fun _ _ => rfl)) sa_nil)))) (SE.sp se_int) (nomark _)))))))
theorem ok_is_lot_of (r_is_fraction_of : CalR P w K mg base 2 "is_fraction_of" f_is_fraction_of) (r_total : CalR P w K mg base 4 "total" f_total) (k_MOST_PLACES : ConR K mg "MOST_PLACES" (.int 8)) (k_ONE : ConR K mg "ONE" (.tup [(.int 1), (.int 1)])) (nb : Nb mg) : ∀ f fd, Fun K "is_lot_of" "is_lot_of" s_is_lot_of f fd → FnOk P w K mg base CX0 5 f fd ["value"] (spF K f_is_lot_of) := fun f fd F => def_ok (m := b_is_lot_of) 1 2 F sc_is_lot_of rfl rfl fun cdv A outer s H E hr =>
  (ss_cons (s_if (SW.st (sw_or (st_not (st_val (SE.sp (se_bi cr_isi f1_isi (by rfl) nb.b_isinstance (by decide +kernel) (spa_cons (sp_var (pv 0)) (spa_cons (SE.sp (se_ty (by rfl) nb.b_tuple (by decide +kernel))) spa_nil)))))) (sw_or1 (st_not (st_chain op_le op_le c2_int c2_int (SE.sp se_int) (SE.sp (se_bi cr_len f1_len (by rfl) nb.b_len (by decide +kernel) (spa_cons (sp_var (pv 0)) spa_nil))) (SE.sp (se_con k_MOST_PLACES (by rfl))))))))
  (ss_one (s_ret se_bl))
  ss_nil)
  (ss_cons (s_if (st_not (st_val (SE.sp (se_bi (cr_all rfl) f1_all (by rfl) nb.b_all (by decide +kernel) (spa_cons (SE.sp (SL.se (sl_lc (own := [("one", 1)]) rfl sc_is_lot_of.nd (sip_seq (sp_var (pv 0))) (blkOk_by (N := N_is_lot_of) (sc := (defScope s_is_lot_of)) (by decide +kernel)) (fun _ _ _ _ _ => (sg_name (pg_name (i := 1) sc_is_lot_of.nd rfl (by first | exact .inl rfl | exact .inr rfl)))) (fun _ _ _ _ _ => sts_nil) (fun _ _ _ _ _ => (se_and (se_c r_is_fraction_of hr (by decide) (by rfl) (sa_cons (se_var (pv 1)) sa_nil)) (se_one (se_cmp op_ge c2_int (SE.sp (se_ix ix_seq o2_ix (sp_var (pv 1)) (SE.sp se_int) (fun _ _ => rfl))) (SE.sp se_int) (nomark _))))) (by decide)))) spa_nil)))))
  (ss_one (s_ret se_bl))
  ss_nil)
  (ss_one (s_ret (se_cmp (op_eqD hr.units) c2_eq (SE.sp (se_c r_total hr (by decide) (by rfl) (sa_cons (se_var (pv 0)) sa_nil))) (SE.sp (se_con k_ONE (by rfl))) (nomark _))))))
theorem ok_is_short (r_is_fraction_of : CalR P w K mg base 2 "is_fraction_of" f_is_fraction_of) (k_MOST_DIGITS : ConR K mg "MOST_DIGITS" (.int 1000000000000)) (nb : Nb mg) : ∀ f fd, Fun K "is_short" "is_short" s_is_short f fd → FnOk P w K mg base CX0 3 f fd ["value"] (spF K f_is_short) := fun f fd F => def_ok (m := b_is_short) 1 1 F sc_is_short rfl rfl fun cdv A outer s H E hr =>
  (ss_one (s_ret (se_and (se_c r_is_fraction_of hr (by decide) (by rfl) (sa_cons (se_var (pv 0)) sa_nil)) (se_and (se_cmp (op_ltA (room65 hr)) c2_ltA (SE.sp (se_bi call_abs f1_abs (by rfl) nb.b_abs (by decide +kernel) (spa_cons (SE.sp (se_ix ix_seq o2_ix (sp_var (pv 0)) (SE.sp se_int) (fun _ _ => rfl))) spa_nil))) (SE.sp (se_con k_MOST_DIGITS (by rfl))) (nomark _)) (se_one (se_cmp (op_ltA (room65 hr)) c2_ltA (SE.sp (se_ix ix_seq o2_ix (sp_var (pv 0)) (SE.sp se_int) (fun _ _ => rfl))) (SE.sp (se_con k_MOST_DIGITS (by rfl))) (nomark _)))))))
theorem ok_is_short_lot (r_is_lot_of : CalR P w K mg base 5 "is_lot_of" f_is_lot_of) (r_is_short : CalR P w K mg base 3 "is_short" f_is_short) (nb : Nb mg) : ∀ f fd, Fun K "is_short_lot" "is_short_lot" s_is_short_lot f fd → FnOk P w K mg base CX0 6 f fd ["value"] (spF K f_is_short_lot) := fun f fd F => def_ok (m := b_is_short_lot) 1 2 F sc_is_short_lot rfl rfl fun cdv A outer s H E hr =>
  (ss_one (s_ret (se_and (se_c r_is_lot_of hr (by decide) (by rfl) (sa_cons (se_var (pv 0)) sa_nil)) (se_one (se_bi (cr_all rfl) f1_all (by rfl) nb.b_all (by decide +kernel) (spa_cons (SE.sp (SL.se (sl_lc (own := [("one", 1)]) rfl sc_is_short_lot.nd (sip_seq (sp_var (pv 0))) (blkOk_by (N := N_is_short_lot) (sc := (defScope s_is_short_lot)) (by decide +kernel)) (fun _ _ _ _ _ => (sg_name (pg_name (i := 1) sc_is_short_lot.nd rfl (by first | exact .inl rfl | exact .inr rfl)))) (fun _ _ _ _ _ => sts_nil) (fun _ _ _ _ _ => (se_c r_is_short hr (by decide) (by rfl) (sa_cons (se_var (pv 1)) sa_nil))) (by decide)))) spa_nil))))))
theorem ok_check_lot (cl : Cls P w K mg base) (r_is_short_lot : CalR P w K mg base 6 "is_short_lot" f_is_short_lot) : ∀ f fd, Fun K "check_lot" "check_lot" s_check_lot f fd → FnOk P w K mg base (L2N.CX P w) 7 f fd ["value"] (spV K CC g_check_lot) := fun f fd F => def_okV (m := b_check_lot) 1 1 F sc_check_lot rfl rfl fun cdv A outer s H E hr =>
  (svs_one (sv_if (st_not (st_val (SE.sp (se_c r_is_short_lot hr (by decide) (by rfl) (sa_cons (se_var (pv 0)) sa_nil)))))
  (svs_one (sv_raiseW (k := 2) cl.v_InvalidLot rfl (L2N.takes_of rfl rfl rfl rfl) rfl (hr.mono (by decide)) (by rfl) (sa_cons (se_var (pv 0)) sa_nil)))
  svs_nil))
theorem ok_check_two (cv_check_lot : CalV P w K mg base 7 "check_lot" CC g_check_lot) : ∀ f fd, Fun K "check_two" "check_two" s_check_two f fd → FnOk P w K mg base (L2N.CX P w) 8 f fd ["lot", "other"] (spV K CC g_check_two) := fun f fd F => def_okV (m := b_check_two) 2 2 F sc_check_two rfl rfl fun cdv A outer s H E hr =>
  (svs_cons (sv_call (pe_callV cv_check_lot (L2N.takes_of rfl rfl rfl rfl) hr (by decide) (by rfl) (sa_cons (se_var (pv 0)) sa_nil)))
  (svs_one (sv_call (pe_callV cv_check_lot (L2N.takes_of rfl rfl rfl rfl) hr (by decide) (by rfl) (sa_cons (se_var (pv 1)) sa_nil)))))
theorem ok_check_alike (cl : Cls P w K mg base) (cv_check_two : CalV P w K mg base 8 "check_two" CC g_check_two) (nb : Nb mg) : ∀ f fd, Fun K "check_alike" "check_alike" s_check_alike f fd → FnOk P w K mg base (L2N.CX P w) 9 f fd ["lot", "other"] (spV K CC g_check_alike) := fun f fd F => def_okV (m := b_check_alike) 2 2 F sc_check_alike rfl rfl fun cdv A outer s H E hr =>
  (svs_cons (sv_call (pe_callV cv_check_two (L2N.takes_of rfl rfl rfl rfl) hr (by decide) (by rfl) (sa_cons (se_var (pv 0)) (sa_cons (se_var (pv 1)) sa_nil))))
  (svs_one (sv_if (st_cmp (op_neD hr.units) c2_ne (SE.sp (se_bi cr_len f1_len (by rfl) nb.b_len (by decide +kernel) (spa_cons (sp_var (pv 0)) spa_nil))) (SE.sp (se_bi cr_len f1_len (by rfl) nb.b_len (by decide +kernel) (spa_cons (sp_var (pv 1)) spa_nil))) (nomark _))
  (svs_one (sv_raiseN' (k := 5) cl.n_UnlikePlaces rfl (L2N.takes_of rfl rfl rfl rfl) rfl (by rfl)))
  svs_nil)))
theorem ok_distance (cv_check_alike : CalV P w K mg base 9 "check_alike" CC g_check_alike) (r_distance_of : CalR P w K mg base 5 "distance_of" f_distance_of) : ∀ f fd, Fun K "distance" "distance" s_distance f fd → FnOk P w K mg base (L2N.CX P w) 10 f fd ["lot", "other"] (spV K CC g_distance) := fun f fd F => def_okV (m := b_distance) 2 2 F sc_distance rfl rfl fun cdv A outer s H E hr =>
  (svs_cons (sv_call (pe_callV cv_check_alike (L2N.takes_of rfl rfl rfl rfl) hr (by decide) (by rfl) (sa_cons (se_var (pv 0)) (sa_cons (se_var (pv 1)) sa_nil))))
  (svs_one (sv_of (s_ret (se_c r_distance_of hr (by decide) (by rfl) (sa_cons (se_var (pv 0)) (sa_cons (se_var (pv 1)) sa_nil)))))))
theorem ok_showing (cv_check_alike : CalV P w K mg base 9 "check_alike" CC g_check_alike) (r_is_below : CalR P w K mg base 1 "is_below" f_is_below) (nb : Nb mg) : ∀ f fd, Fun K "showing" "showing" s_showing f fd → FnOk P w K mg base (L2N.CX P w) 10 f fd ["lot", "other"] (spV K CC g_showing) := fun f fd F => def_okV (m := b_showing) 2 4 F sc_showing rfl rfl fun cdv A outer s H E hr =>
  (svs_cons (sv_call (pe_callV cv_check_alike (L2N.takes_of rfl rfl rfl rfl) hr (by decide) (by rfl) (sa_cons (se_var (pv 0)) (sa_cons (se_var (pv 1)) sa_nil))))
  (svs_one (sv_of (s_ret (SL.se (sl_lc (own := [("place", 2), ("one", 3)]) rfl sc_showing.nd (sip_enum (by rfl) nb.b_enumerate (sp_var (pv 0))) (blkOk_by (N := N_showing) (sc := (defScope s_showing)) (by decide +kernel)) (fun _ _ _ _ _ => (sg_tup rfl (sgs_cons (sg_name (pg_name (i := 2) sc_showing.nd rfl (by first | exact .inl rfl | exact .inr rfl))) (sgs_cons (sg_name (pg_name (i := 3) sc_showing.nd rfl (by first | exact .inl rfl | exact .inr rfl))) sgs_nil)))) (fun _ _ _ _ _ => (sts_one (st_val (SE.sp (se_c r_is_below hr (by decide) (by rfl) (sa_cons (se_ix ix_seq o2_ix (sp_var (pv 1)) (sp_var (pv 2)) (fun _ _ => rfl)) (sa_cons (se_var (pv 3)) sa_nil))))))) (fun _ _ _ _ _ => (se_var (pv 2))) (by decide)))))))
theorem ok_lesser (r_is_below : CalR P w K mg base 1 "is_below" f_is_below) : ∀ f fd, Fun K "lesser" "lesser" s_lesser f fd → FnOk P w K mg base CX0 2 f fd ["one", "late"] (spF K f_lesser) := fun f fd F => def_ok (m := b_lesser) 2 2 F sc_lesser rfl rfl fun cdv A outer s H E hr =>
  (ss_one (s_ret (se_if (st_val (SE.sp (se_c r_is_below hr (by decide) (by rfl) (sa_cons (se_var (pv 1)) (sa_cons (se_var (pv 0)) sa_nil))))) (se_var (pv 1)) (se_var (pv 0)))))
theorem ok_first_left (nb : Nb mg) : ∀ f fd, Fun K "first_left" "first_left" s_first_left f fd → FnOk P w K mg base CX0 1 f fd ["left"] (spF K f_first_left) := fun f fd F => def_ok (m := b_first_left) 1 3 F sc_first_left rfl rfl fun cdv A outer s H E hr =>
  (ss_cons (s_for PassesOwn.never rfl (si_enum (by rfl) nb.b_enumerate (se_var (pv 0))) (sg_tup rfl (sgs_cons (sg_name (pg_name (i := 1) sc_first_left.nd rfl (by first | exact .inl rfl | exact .inr rfl))) (sgs_cons (sg_name (pg_name (i := 2) sc_first_left.nd rfl (by first | exact .inl rfl | exact .inr rfl))) sgs_nil)))
  (ss_one (s_if (st_cmp op_gt c2_int (SE.sp (se_ix ix_seq o2_ix (sp_var (pv 2)) (SE.sp se_int) (fun _ _ => rfl))) (SE.sp se_int) (nomark _))
  (ss_one (s_ret (se_var (pv 1))))
  ss_nil)))
  (ss_one (s_ret se_non)))
theorem ok_put_along (r_first_left : CalR P w K mg base 1 "first_left" f_first_left) (r_lesser : CalR P w K mg base 2 "lesser" f_lesser) (r_take : CalR P w K mg base 3 "take" f_take) : ∀ f fd, Fun K "put_along" "put_along" s_put_along f fd → FnOk P w K mg base CX0 4 f fd ["table", "left", "late"] (spF K f_put_along) := fun f fd F => def_ok (m := b_put_along) 3 6 F sc_put_along rfl rfl fun cdv A outer s H E hr =>
  (ss_cons (s_par (ps_par (by rfl) sc_put_along.nd rfl rfl (by decide) rfl rfl (SA.pa (sa_cons (se_c r_first_left hr (by decide) (by rfl) (sa_cons (se_var (pv 1)) sa_nil)) (sa_cons (se_c r_first_left hr (by decide) (by rfl) (sa_cons (se_var (pv 2)) sa_nil)) sa_nil))) (by rfl)) (fun _ _ _ h => h))
  (ss_one (s_while FUEL (fun hc hb => ps_while PassesOwn.never hc hb) (SW.st (sw_and (st_cmp op_notN c2_notN (sp_var (pv 3)) (SE.sp se_non) (nomark _)) (sw_and1 (st_cmp op_notN c2_notN (sp_var (pv 4)) (SE.sp se_non) (nomark _)))))
  (ss_cons (s_asg (ps_set (i := 5) sc_put_along.nd rfl (by first | exact .inl rfl | exact .inr rfl) (SE.pe (se_c r_lesser hr (by decide) (by rfl) (sa_cons (se_ix ix_seq o2_ix (sp_var (pv 1)) (sp_var (pv 3)) (fun _ _ => rfl)) (sa_cons (se_ix ix_seq o2_ix (sp_var (pv 2)) (sp_var (pv 4)) (fun _ _ => rfl)) sa_nil))))) (fun _ _ _ h => h))
  (ss_cons ss_fail
  (ss_cons ss_fail
  (ss_one (s_par (ps_par (by rfl) sc_put_along.nd rfl rfl (by decide) rfl rfl (SA.pa (sa_cons (se_c r_first_left hr (by decide) (by rfl) (sa_cons (se_var (pv 1)) sa_nil)) (sa_cons (se_c r_first_left hr (by decide) (by rfl) (sa_cons (se_var (pv 2)) sa_nil)) sa_nil))) (by rfl)) (fun _ _ _ h => h)))))))))
theorem ok_left_of (r_take : CalR P w K mg base 3 "take" f_take) (nb : Nb mg) : ∀ f fd, Fun K "left_of" "left_of" s_left_of f fd → FnOk P w K mg base CX0 4 f fd ["lot", "part"] (spF K f_left_of) := fun f fd F => def_ok (m := b_left_of) 2 4 F sc_left_of rfl rfl fun cdv A outer s H E hr =>
  (ss_one (s_ret (SL.se (sl_lc (own := [("one", 2), ("late", 3)]) rfl sc_left_of.nd (sip_zip (by rfl) nb.b_zip (sp_var (pv 0)) (sp_var (pv 1))) (blkOk_by (N := N_left_of) (sc := (defScope s_left_of)) (by decide +kernel)) (fun _ _ _ _ _ => (sg_tup rfl (sgs_cons (sg_name (pg_name (i := 2) sc_left_of.nd rfl (by first | exact .inl rfl | exact .inr rfl))) (sgs_cons (sg_name (pg_name (i := 3) sc_left_of.nd rfl (by first | exact .inl rfl | exact .inr rfl))) sgs_nil)))) (fun _ _ _ _ _ => sts_nil) (fun _ _ _ _ _ => (se_c r_take hr (by decide) (by rfl) (sa_cons (se_var (pv 2)) (sa_cons (se_var (pv 3)) sa_nil)))) (by decide)))))
theorem ok_alike_table (r_lesser : CalR P w K mg base 2 "lesser" f_lesser) (r_put_along : CalR P w K mg base 4 "put_along" f_put_along) (r_left_of : CalR P w K mg base 4 "left_of" f_left_of) (k_NOUGHT : ConR K mg "NOUGHT" (.tup [(.int 0), (.int 1)])) (nb : Nb mg) : ∀ f fd, Fun K "alike_table" "alike_table" s_alike_table f fd → FnOk P w K mg base CX0 5 f fd ["lot", "other"] (spM K fm_alike_table) := fun f fd F => def_okM (m := bm_alike_table) 2 7 F sc_alike_table rfl rfl fun cdv A outer s H E hr =>
  (ms_cons (ms_setLcR (ps_lc (i := 3) (own := [("one", 2), ("late", 6)]) rfl sc_alike_table.nd rfl rfl (sw_true rfl rfl rfl (by decide +kernel)) (sip_zip (by rfl) nb.b_zip (sp_var (pv 0)) (sp_var (pv 1))) (blkOk_by (N := N_alike_table) (sc := (defScope s_alike_table)) (by decide +kernel)) (fun _ _ _ _ _ => (sg_tup rfl (sgs_cons (sg_name (pg_name (i := 2) sc_alike_table.nd rfl (by first | exact .inl rfl | exact .inr rfl))) (sgs_cons (sg_name (pg_name (i := 6) sc_alike_table.nd rfl (by first | exact .inl rfl | exact .inr rfl))) sgs_nil)))) (fun _ _ _ _ _ => sts_nil) (fun _ _ _ _ _ => (se_c r_lesser hr (by decide) (by rfl) (sa_cons (se_var (pv 2)) (sa_cons (se_var (pv 6)) sa_nil)))) (by decide)))
  (ms_cons (ms_set (psm_lc (i := 5) (own := [("place", 4)]) rfl sc_alike_table.nd rfl rfl (sw_true rfl rfl rfl (by decide +kernel)) (smi_R (si_seq (se_var (pv 0)))) (blkOk_by (N := N_alike_table) (sc := (defScope s_alike_table)) (by decide +kernel)) (fun _ _ _ _ _ => (mt_name (pg_name (i := 4) sc_alike_table.nd rfl (by first | exact .inl rfl | exact .inr rfl)))) (fun _ _ _ _ _ => smt_nil) (fun _ _ _ _ _ => (sm_L (sl_rep (SE.sp (SL.se (sl_lst (sa_cons (se_con k_NOUGHT (by rfl)) sa_nil)))) (SE.sp (se_bi cr_len f1_len (by rfl) nb.b_len (by decide +kernel) (spa_cons (sp_var (pv 1)) spa_nil)))))) (by decide)))
  (ms_cons (ms_for PassesOwn.never rfl (smi_R (si_enum (by rfl) nb.b_enumerate (se_var (pv 3)))) (mt_tup rfl (mts_cons (mt_name (pg_name (i := 4) sc_alike_table.nd rfl (by first | exact .inl rfl | exact .inr rfl))) (mts_cons (mt_name (pg_name (i := 2) sc_alike_table.nd rfl (by first | exact .inl rfl | exact .inr rfl))) mts_nil)))
  (ms_one (ms_asg (ps_asg (SM.pe (sm_var (pv 2))) (SMG.pg (mg_sub (sm_ix (sm_var (pv 5)) (sm_var (pv 4)) (fun _ _ => rfl)) (sm_var (pv 4))))) (fun _ _ _ h => h) (fun _ _ _ _ h => h))))
  (ms_cons (ms_expr (sm_R (se_c r_put_along hr (by decide) (by rfl) (sa_cons (se_var (pv 5)) (sa_cons (se_c r_left_of hr (by decide) (by rfl) (sa_cons (se_var (pv 0)) (sa_cons (se_var (pv 3)) sa_nil))) (sa_cons (se_c r_left_of hr (by decide) (by rfl) (sa_cons (se_var (pv 1)) (sa_cons (se_var (pv 3)) sa_nil))) sa_nil))))))
  (ms_one (ms_ret (sm_var (pv 5))))))))
theorem ok_alike_pairing (cv_check_alike : CalV P w K mg base 9 "check_alike" CC g_check_alike) (r_alike_table : CalR P w K mg base 5 "alike_table" f_alike_table) : ∀ f fd, Fun K "alike_pairing" "alike_pairing" s_alike_pairing f fd → FnOk P w K mg base (L2N.CX P w) 10 f fd ["lot", "other"] (spV K CC g_alike_pairing) := fun f fd F => def_okV (m := b_alike_pairing) 2 2 F sc_alike_pairing rfl rfl fun cdv A outer s H E hr =>
  (svs_cons (sv_call (pe_callV cv_check_alike (L2N.takes_of rfl rfl rfl rfl) hr (by decide) (by rfl) (sa_cons (se_var (pv 0)) (sa_cons (se_var (pv 1)) sa_nil))))
  (svs_one (sv_of (s_ret (se_c r_alike_table hr (by decide) (by rfl) (sa_cons (se_var (pv 0)) (sa_cons (se_var (pv 1)) sa_nil)))))))
theorem ok_is_list (nb : Nb mg) : ∀ f fd, Fun K "is_list" "is_list" s_is_list f fd → FnOk P w K mg base CX0 1 f fd ["value"] (spF K f_is_list) := fun f fd F => def_ok (m := b_is_list) 1 1 F sc_is_list rfl rfl fun cdv A outer s H E hr =>
  (ss_one (s_ret (se_bi cr_isi f1_isi (by rfl) nb.b_isinstance (by decide +kernel) (spa_cons (sp_var (pv 0)) (spa_cons (SE.sp (se_tup (sa_cons (se_ty (by rfl) nb.b_list (by decide +kernel)) (sa_cons (se_ty (by rfl) nb.b_tuple (by decide +kernel)) sa_nil)))) spa_nil)))))
theorem ok_is_chance (r_is_fraction_of : CalR P w K mg base 2 "is_fraction_of" f_is_fraction_of) : ∀ f fd, Fun K "is_chance" "is_chance" s_is_chance f fd → FnOk P w K mg base CX0 3 f fd ["value"] (spF K f_is_chance) := fun f fd F => def_ok (m := b_is_chance) 1 1 F sc_is_chance rfl rfl fun cdv A outer s H E hr =>
  (ss_one (s_ret (se_and (se_c r_is_fraction_of hr (by decide) (by rfl) (sa_cons (se_var (pv 0)) sa_nil)) (se_one (se_cmp op_ge c2_int (SE.sp (se_ix ix_seq o2_ix (sp_var (pv 0)) (SE.sp se_int) (fun _ _ => rfl))) (SE.sp se_int) (nomark _))))))
theorem ok_is_row (r_is_chance : CalR P w K mg base 3 "is_chance" f_is_chance) (r_total : CalR P w K mg base 4 "total" f_total) (nb : Nb mg) : ∀ f fd, Fun K "is_row" "is_row" s_is_row f fd → FnOk P w K mg base CX0 5 f fd ["own", "row"] (spF K f_is_row) := fun f fd F => def_ok (m := b_is_row) 2 3 F sc_is_row rfl rfl fun cdv A outer s H E hr =>
  (ss_one (s_ret (se_and (se_bi (cr_all rfl) f1_all (by rfl) nb.b_all (by decide +kernel) (spa_cons (SE.sp (SL.se (sl_lc (own := [("one", 2)]) rfl sc_is_row.nd (sip_seq (sp_var (pv 1))) (blkOk_by (N := N_is_row) (sc := (defScope s_is_row)) (by decide +kernel)) (fun _ _ _ _ _ => (sg_name (pg_name (i := 2) sc_is_row.nd rfl (by first | exact .inl rfl | exact .inr rfl)))) (fun _ _ _ _ _ => sts_nil) (fun _ _ _ _ _ => (se_c r_is_chance hr (by decide) (by rfl) (sa_cons (se_var (pv 2)) sa_nil))) (by decide)))) spa_nil)) (se_one (se_cmp (op_eqD hr.units) c2_eq (SE.sp (se_c r_total hr (by decide) (by rfl) (sa_cons (se_var (pv 1)) sa_nil))) (sp_var (pv 0)) (nomark _))))))
theorem ok_are_columns (r_total : CalR P w K mg base 4 "total" f_total) (nb : Nb mg) : ∀ f fd, Fun K "are_columns" "are_columns" s_are_columns f fd → FnOk P w K mg base CX0 5 f fd ["other", "value"] (spF K f_are_columns) := fun f fd F => def_ok (m := b_are_columns) 2 5 F sc_are_columns rfl rfl fun cdv A outer s H E hr =>
  (ss_one (s_ret (se_bi (cr_all rfl) f1_all (by rfl) nb.b_all (by decide +kernel) (spa_cons (SE.sp (SL.se (sl_lc (own := [("late", 2), ("own", 3)]) rfl sc_are_columns.nd (sip_enum (by rfl) nb.b_enumerate (sp_var (pv 0))) (blkOk_by (N := N_are_columns) (sc := (defScope s_are_columns)) (by decide +kernel)) (fun _ _ _ _ _ => (sg_tup rfl (sgs_cons (sg_name (pg_name (i := 2) sc_are_columns.nd rfl (by first | exact .inl rfl | exact .inr rfl))) (sgs_cons (sg_name (pg_name (i := 3) sc_are_columns.nd rfl (by first | exact .inl rfl | exact .inr rfl))) sgs_nil)))) (fun _ _ _ _ _ => sts_nil) (fun _ _ _ _ _ => (se_cmp (op_eqD hr.units) c2_eq (SE.sp (se_c r_total hr (by decide) (by rfl) (sa_cons (SL.se (sl_lc (own := [("row", 4)]) rfl sc_are_columns.nd (sip_seq (sp_var (pv 1))) (blkOk_by (N := N_are_columns) (sc := (relS _ (defScope s_are_columns))) (by decide +kernel)) (fun _ _ _ _ _ => (sg_name (pg_name (i := 4) sc_are_columns.nd rfl (by first | exact .inl rfl | exact .inr rfl)))) (fun _ _ _ _ _ => sts_nil) (fun _ _ _ _ _ => (se_ix ix_seq o2_ix (sp_var (pv 4)) (sp_var (pv 2)) (fun _ _ => rfl))) (by decide))) sa_nil))) (sp_var (pv 3)) (nomark _))) (by decide)))) spa_nil))))
theorem ok_is_table_of (r_is_list : CalR P w K mg base 1 "is_list" f_is_list) (r_is_row : CalR P w K mg base 5 "is_row" f_is_row) (r_are_columns : CalR P w K mg base 5 "are_columns" f_are_columns) (nb : Nb mg) : ∀ f fd, Fun K "is_table_of" "is_table_of" s_is_table_of f fd → FnOk P w K mg base CX0 6 f fd ["lot", "other", "value"] (spF K f_is_table_of) := fun f fd F => def_ok (m := b_is_table_of) 3 5 F sc_is_table_of rfl rfl fun cdv A outer s H E hr =>
  (ss_cons (s_if (SW.st (sw_or (st_not (st_val (SE.sp (se_c r_is_list hr (by decide) (by rfl) (sa_cons (se_var (pv 2)) sa_nil))))) (sw_or1 (st_cmp (op_neD hr.units) c2_ne (SE.sp (se_bi cr_len f1_len (by rfl) nb.b_len (by decide +kernel) (spa_cons (sp_var (pv 2)) spa_nil))) (SE.sp (se_bi cr_len f1_len (by rfl) nb.b_len (by decide +kernel) (spa_cons (sp_var (pv 0)) spa_nil))) (nomark _)))))
  (ss_one (s_ret se_bl))
  ss_nil)
  (ss_cons (s_if (st_not (st_val (SE.sp (se_bi (cr_all rfl) f1_all (by rfl) nb.b_all (by decide +kernel) (spa_cons (SE.sp (SL.se (sl_lc (own := [("row", 3)]) rfl sc_is_table_of.nd (sip_seq (sp_var (pv 2))) (blkOk_by (N := N_is_table_of) (sc := (defScope s_is_table_of)) (by decide +kernel)) (fun _ _ _ _ _ => (sg_name (pg_name (i := 3) sc_is_table_of.nd rfl (by first | exact .inl rfl | exact .inr rfl)))) (fun _ _ _ _ _ => sts_nil) (fun _ _ _ _ _ => (se_and (se_c r_is_list hr (by decide) (by rfl) (sa_cons (se_var (pv 3)) sa_nil)) (se_one (se_cmp (op_eqD hr.units) c2_eq (SE.sp (se_bi cr_len f1_len (by rfl) nb.b_len (by decide +kernel) (spa_cons (sp_var (pv 3)) spa_nil))) (SE.sp (se_bi cr_len f1_len (by rfl) nb.b_len (by decide +kernel) (spa_cons (sp_var (pv 1)) spa_nil))) (nomark _))))) (by decide)))) spa_nil)))))
  (ss_one (s_ret se_bl))
  ss_nil)
  (ss_one (s_ret (se_and (se_bi (cr_all rfl) f1_all (by rfl) nb.b_all (by decide +kernel) (spa_cons (SE.sp (SL.se (sl_lc (own := [("own", 4), ("row", 3)]) rfl sc_is_table_of.nd (sip_zip (by rfl) nb.b_zip (sp_var (pv 0)) (sp_var (pv 2))) (blkOk_by (N := N_is_table_of) (sc := (defScope s_is_table_of)) (by decide +kernel)) (fun _ _ _ _ _ => (sg_tup rfl (sgs_cons (sg_name (pg_name (i := 4) sc_is_table_of.nd rfl (by first | exact .inl rfl | exact .inr rfl))) (sgs_cons (sg_name (pg_name (i := 3) sc_is_table_of.nd rfl (by first | exact .inl rfl | exact .inr rfl))) sgs_nil)))) (fun _ _ _ _ _ => sts_nil) (fun _ _ _ _ _ => (se_c r_is_row hr (by decide) (by rfl) (sa_cons (se_var (pv 4)) (sa_cons (se_var (pv 3)) sa_nil)))) (by decide)))) spa_nil)) (se_one (se_c r_are_columns hr (by decide) (by rfl) (sa_cons (se_var (pv 1)) (sa_cons (se_var (pv 2)) sa_nil)))))))))
theorem ok_is_nearest (cv_check_alike : CalV P w K mg base 9 "check_alike" CC g_check_alike) (r_is_table_of : CalR P w K mg base 6 "is_table_of" f_is_table_of) (r_total : CalR P w K mg base 4 "total" f_total) (r_take : CalR P w K mg base 3 "take" f_take) (r_distance_of : CalR P w K mg base 5 "distance_of" f_distance_of) (k_ONE : ConR K mg "ONE" (.tup [(.int 1), (.int 1)])) (nb : Nb mg) : ∀ f fd, Fun K "is_nearest" "is_nearest" s_is_nearest f fd → FnOk P w K mg base (L2N.CX P w) 10 f fd ["lot", "other", "value"] (spV K CC g_is_nearest) := fun f fd F => def_okV (m := b_is_nearest) 3 5 F sc_is_nearest rfl rfl fun cdv A outer s H E hr =>
  (svs_cons (sv_call (pe_callV cv_check_alike (L2N.takes_of rfl rfl rfl rfl) hr (by decide) (by rfl) (sa_cons (se_var (pv 0)) (sa_cons (se_var (pv 1)) sa_nil))))
  (svs_cons (sv_of (s_if (st_not (st_val (SE.sp (se_c r_is_table_of hr (by decide) (by rfl) (sa_cons (se_var (pv 0)) (sa_cons (se_var (pv 1)) (sa_cons (se_var (pv 2)) sa_nil)))))))
  (ss_one (s_ret se_bl))
  ss_nil))
  (svs_one (sv_of (s_ret (se_cmp (op_eqD hr.units) c2_eq (SE.sp (se_c r_total hr (by decide) (by rfl) (sa_cons (SL.se (sl_lc (own := [("place", 3), ("row", 4)]) rfl sc_is_nearest.nd (sip_enum (by rfl) nb.b_enumerate (sp_var (pv 2))) (blkOk_by (N := N_is_nearest) (sc := (defScope s_is_nearest)) (by decide +kernel)) (fun _ _ _ _ _ => (sg_tup rfl (sgs_cons (sg_name (pg_name (i := 3) sc_is_nearest.nd rfl (by first | exact .inl rfl | exact .inr rfl))) (sgs_cons (sg_name (pg_name (i := 4) sc_is_nearest.nd rfl (by first | exact .inl rfl | exact .inr rfl))) sgs_nil)))) (fun _ _ _ _ _ => sts_nil) (fun _ _ _ _ _ => (se_ix ix_seq o2_ix (sp_var (pv 4)) (sp_var (pv 3)) (fun _ _ => rfl))) (by decide))) sa_nil))) (SE.sp (se_c r_take hr (by decide) (by rfl) (sa_cons (se_con k_ONE (by rfl)) (sa_cons (se_c r_distance_of hr (by decide) (by rfl) (sa_cons (se_var (pv 0)) (sa_cons (se_var (pv 1)) sa_nil))) sa_nil)))) (nomark _)))))))
theorem ok_least_of (r_lesser : CalR P w K mg base 2 "lesser" f_lesser) : ∀ f fd, Fun K "least_of" "least_of" s_least_of f fd → FnOk P w K mg base CX0 3 f fd ["some"] (spF K f_least_of) := fun f fd F => def_ok (m := b_least_of) 1 3 F sc_least_of rfl rfl fun cdv A outer s H E hr =>
  (ss_cons (s_asg (ps_set (i := 1) sc_least_of.nd rfl (by first | exact .inl rfl | exact .inr rfl) (SE.pe (se_ix ix_seq o2_ix (sp_var (pv 0)) (SE.sp se_int) (fun _ _ => rfl)))) (fun _ _ _ h => h))
  (ss_cons (s_for PassesOwn.never rfl (si_seq (se_cut (sp_var (pv 0)) (so_some (SE.sp se_int)) so_none)) (sg_name (pg_name (i := 2) sc_least_of.nd rfl (by first | exact .inl rfl | exact .inr rfl)))
  (ss_one (s_asg (ps_set (i := 1) sc_least_of.nd rfl (by first | exact .inl rfl | exact .inr rfl) (SE.pe (se_c r_lesser hr (by decide) (by rfl) (sa_cons (se_var (pv 1)) (sa_cons (se_var (pv 2)) sa_nil))))) (fun _ _ _ h => h))))
  (ss_one (s_ret (se_var (pv 1))))))
theorem ok_least_chances (r_least_of : CalR P w K mg base 3 "least_of" f_least_of) (nb : Nb mg) : ∀ f fd, Fun K "least_chances" "least_chances" s_least_chances f fd → FnOk P w K mg base CX0 4 f fd ["lots"] (spF K f_least_chances) := fun f fd F => def_ok (m := b_least_chances) 1 3 F sc_least_chances rfl rfl fun cdv A outer s H E hr =>
  (ss_one (s_ret (SL.se (sl_lc (own := [("place", 1)]) rfl sc_least_chances.nd (SI.sip (si_range1 (by rfl) nb.b_range (SE.sp (se_bi cr_len f1_len (by rfl) nb.b_len (by decide +kernel) (spa_cons (SE.sp (se_ix ix_seq o2_ix (sp_var (pv 0)) (SE.sp se_int) (fun _ _ => rfl))) spa_nil))))) (blkOk_by (N := N_least_chances) (sc := (defScope s_least_chances)) (by decide +kernel)) (fun _ _ _ _ _ => (sg_name (pg_name (i := 1) sc_least_chances.nd rfl (by first | exact .inl rfl | exact .inr rfl)))) (fun _ _ _ _ _ => sts_nil) (fun _ _ _ _ _ => (se_c r_least_of hr (by decide) (by rfl) (sa_cons (SL.se (sl_lc (own := [("lot", 2)]) rfl sc_least_chances.nd (sip_seq (sp_var (pv 0))) (blkOk_by (N := N_least_chances) (sc := (relS _ (defScope s_least_chances))) (by decide +kernel)) (fun _ _ _ _ _ => (sg_name (pg_name (i := 2) sc_least_chances.nd rfl (by first | exact .inl rfl | exact .inr rfl)))) (fun _ _ _ _ _ => sts_nil) (fun _ _ _ _ _ => (se_ix ix_seq o2_ix (sp_var (pv 2)) (sp_var (pv 1)) (fun _ _ => rfl))) (by decide))) sa_nil))) (by decide)))))
theorem ok_check_lots (cl : Cls P w K mg base) (r_is_list : CalR P w K mg base 1 "is_list" f_is_list) (r_is_short_lot : CalR P w K mg base 6 "is_short_lot" f_is_short_lot) (k_MOST_LOTS : ConR K mg "MOST_LOTS" (.int 6)) (nb : Nb mg) : ∀ f fd, Fun K "check_lots" "check_lots" s_check_lots f fd → FnOk P w K mg base (L2N.CX P w) 7 f fd ["value"] (spV K CC g_check_lots) := fun f fd F => def_okV (m := b_check_lots) 1 2 F sc_check_lots rfl rfl fun cdv A outer s H E hr =>
  (svs_cons (sv_if (SW.st (sw_or (st_not (st_val (SE.sp (se_c r_is_list hr (by decide) (by rfl) (sa_cons (se_var (pv 0)) sa_nil))))) (sw_or (st_not (st_chain op_le op_le c2_int c2_int (SE.sp se_int) (SE.sp (se_bi cr_len f1_len (by rfl) nb.b_len (by decide +kernel) (spa_cons (sp_var (pv 0)) spa_nil))) (SE.sp (se_con k_MOST_LOTS (by rfl))))) (sw_or1 (st_not (st_val (SE.sp (se_bi (cr_all rfl) f1_all (by rfl) nb.b_all (by decide +kernel) (spa_cons (SE.sp (SL.se (sl_lc (own := [("lot", 1)]) rfl sc_check_lots.nd (sip_seq (sp_var (pv 0))) (blkOk_by (N := N_check_lots) (sc := (defScope s_check_lots)) (by decide +kernel)) (fun _ _ _ _ _ => (sg_name (pg_name (i := 1) sc_check_lots.nd rfl (by first | exact .inl rfl | exact .inr rfl)))) (fun _ _ _ _ _ => sts_nil) (fun _ _ _ _ _ => (se_c r_is_short_lot hr (by decide) (by rfl) (sa_cons (se_var (pv 1)) sa_nil))) (by decide)))) spa_nil)))))))))
  (svs_one (sv_raiseW (k := 3) cl.v_InvalidLots rfl (L2N.takes_of rfl rfl rfl rfl) rfl (hr.mono (by decide)) (by rfl) (sa_cons (se_var (pv 0)) sa_nil)))
  svs_nil)
  (svs_one (sv_if (st_not (st_val (SE.sp (se_bi (cr_all rfl) f1_all (by rfl) nb.b_all (by decide +kernel) (spa_cons (SE.sp (SL.se (sl_lc (own := [("lot", 1)]) rfl sc_check_lots.nd (sip_seq (sp_var (pv 0))) (blkOk_by (N := N_check_lots) (sc := (defScope s_check_lots)) (by decide +kernel)) (fun _ _ _ _ _ => (sg_name (pg_name (i := 1) sc_check_lots.nd rfl (by first | exact .inl rfl | exact .inr rfl)))) (fun _ _ _ _ _ => sts_nil) (fun _ _ _ _ _ => (se_cmp (op_eqD hr.units) c2_eq (SE.sp (se_bi cr_len f1_len (by rfl) nb.b_len (by decide +kernel) (spa_cons (sp_var (pv 1)) spa_nil))) (SE.sp (se_bi cr_len f1_len (by rfl) nb.b_len (by decide +kernel) (spa_cons (SE.sp (se_ix ix_seq o2_ix (sp_var (pv 0)) (SE.sp se_int) (fun _ _ => rfl))) spa_nil))) (nomark _))) (by decide)))) spa_nil)))))
  (svs_one (sv_raiseW (k := 3) cl.v_InvalidLots rfl (L2N.takes_of rfl rfl rfl rfl) rfl (hr.mono (by decide)) (by rfl) (sa_cons (se_var (pv 0)) sa_nil)))
  svs_nil)))
theorem ok_most_alike (cv_check_lots : CalV P w K mg base 7 "check_lots" CC g_check_lots) (r_total : CalR P w K mg base 4 "total" f_total) (r_least_chances : CalR P w K mg base 4 "least_chances" f_least_chances) : ∀ f fd, Fun K "most_alike" "most_alike" s_most_alike f fd → FnOk P w K mg base (L2N.CX P w) 8 f fd ["lots"] (spV K CC g_most_alike) := fun f fd F => def_okV (m := b_most_alike) 1 1 F sc_most_alike rfl rfl fun cdv A outer s H E hr =>
  (svs_cons (sv_call (pe_callV cv_check_lots (L2N.takes_of rfl rfl rfl rfl) hr (by decide) (by rfl) (sa_cons (se_var (pv 0)) sa_nil)))
  (svs_one (sv_of (s_ret (se_c r_total hr (by decide) (by rfl) (sa_cons (se_c r_least_chances hr (by decide) (by rfl) (sa_cons (se_var (pv 0)) sa_nil)) sa_nil))))))
theorem ok_joint_of (r_least_chances : CalR P w K mg base 4 "least_chances" f_least_chances) (r_left_of : CalR P w K mg base 4 "left_of" f_left_of) (r_first_left : CalR P w K mg base 1 "first_left" f_first_left) (r_least_of : CalR P w K mg base 3 "least_of" f_least_of) (r_take : CalR P w K mg base 3 "take" f_take) (nb : Nb mg) : ∀ f fd, Fun K "joint_of" "joint_of" s_joint_of f fd → FnOk P w K mg base CX0 5 f fd ["lots"] (spF K f_joint_of) := fun f fd F => def_ok (m := b_joint_of) 1 9 F sc_joint_of rfl rfl fun cdv A outer s H E hr =>
  (ss_cons (s_asg (ps_set (i := 1) sc_joint_of.nd rfl (by first | exact .inl rfl | exact .inr rfl) (SE.pe (se_c r_least_chances hr (by decide) (by rfl) (sa_cons (se_var (pv 0)) sa_nil)))) (fun _ _ _ h => h))
  (ss_cons (s_ownLc (ps_lc (i := 4) (own := [("place", 2), ("one", 3)]) rfl sc_joint_of.nd rfl rfl (sw_true rfl rfl rfl (by decide +kernel)) (sip_enum (by rfl) nb.b_enumerate (sp_var (pv 1))) (blkOk_by (N := N_joint_of) (sc := (defScope s_joint_of)) (by decide +kernel)) (fun _ _ _ _ _ => (sg_tup rfl (sgs_cons (sg_name (pg_name (i := 2) sc_joint_of.nd rfl (by first | exact .inl rfl | exact .inr rfl))) (sgs_cons (sg_name (pg_name (i := 3) sc_joint_of.nd rfl (by first | exact .inl rfl | exact .inr rfl))) sgs_nil)))) (fun _ _ _ _ _ => (sts_one (st_cmp op_gt c2_int (SE.sp (se_ix ix_seq o2_ix (sp_var (pv 3)) (SE.sp se_int) (fun _ _ => rfl))) (SE.sp se_int) (nomark _)))) (fun _ _ _ _ _ => (se_tup (sa_cons (se_op or_mul o2_mul (SE.sp (se_tup (sa_cons (se_var (pv 2)) sa_nil))) (SE.sp (se_bi cr_len f1_len (by rfl) nb.b_len (by decide +kernel) (spa_cons (sp_var (pv 0)) spa_nil)))) (sa_cons (se_var (pv 3)) sa_nil)))) (by decide)))
  (ss_cons (s_setLc (ps_lc (i := 5) (own := [("lot", 8)]) rfl sc_joint_of.nd rfl rfl (sw_true rfl rfl rfl (by decide +kernel)) (sip_seq (sp_var (pv 0))) (blkOk_by (N := N_joint_of) (sc := (defScope s_joint_of)) (by decide +kernel)) (fun _ _ _ _ _ => (sg_name (pg_name (i := 8) sc_joint_of.nd rfl (by first | exact .inl rfl | exact .inr rfl)))) (fun _ _ _ _ _ => sts_nil) (fun _ _ _ _ _ => (se_c r_left_of hr (by decide) (by rfl) (sa_cons (se_var (pv 8)) (sa_cons (se_var (pv 1)) sa_nil)))) (by decide)))
  (ss_cons (s_frz 6 (s_asg (ps_set (i := 7) sc_joint_of.nd rfl (by first | exact .inl rfl | exact .inr rfl) (SE.pe (se_bt call_tuple_of f1_tuple (by rfl) nb.b_tuple (by decide +kernel) (spa_cons (SE.sp (SL.se (sl_lc (own := [("row", 6)]) rfl sc_joint_of.nd (sip_seq (sp_var (pv 5))) (blkOk_by (N := N_joint_of) (sc := (defScope s_joint_of)) (by decide +kernel)) (fun _ _ _ _ _ => (sg_name (pg_name (i := 6) sc_joint_of.nd rfl (by first | exact .inl rfl | exact .inr rfl)))) (fun _ _ _ _ _ => sts_nil) (fun _ _ _ _ _ => (se_c r_first_left hr (by decide) (by rfl) (sa_cons (se_var (pv 6)) sa_nil))) (by decide)))) spa_nil)))) (fun _ _ _ h => h)))
  (ss_cons (s_while FUEL (fun hc hb => ps_while PassesOwn.never hc hb) (st_cmp op_notIn_seq (c2_in true) (SE.sp se_non) (sp_var (pv 7)) (by rfl))
  (ss_cons (s_asg (ps_set (i := 3) sc_joint_of.nd rfl (by first | exact .inl rfl | exact .inr rfl) (SE.pe (se_c r_least_of hr (by decide) (by rfl) (sa_cons (SL.se (sl_lc (own := [("row", 6), ("place", 2)]) rfl sc_joint_of.nd (sip_zip (by rfl) nb.b_zip (sp_var (pv 5)) (sp_var (pv 7))) (blkOk_by (N := N_joint_of) (sc := (defScope s_joint_of)) (by decide +kernel)) (fun _ _ _ _ _ => (sg_tup rfl (sgs_cons (sg_name (pg_name (i := 6) sc_joint_of.nd rfl (by first | exact .inl rfl | exact .inr rfl))) (sgs_cons (sg_name (pg_name (i := 2) sc_joint_of.nd rfl (by first | exact .inl rfl | exact .inr rfl))) sgs_nil)))) (fun _ _ _ _ _ => sts_nil) (fun _ _ _ _ _ => (se_ix ix_seq o2_ix (sp_var (pv 6)) (sp_var (pv 2)) (fun _ _ => rfl))) (by decide))) sa_nil)))) (fun _ _ _ h => h))
  (ss_cons (s_app (pv 4) (se_tup (sa_cons (se_var (pv 7)) (sa_cons (se_var (pv 3)) sa_nil))))
  (ss_cons (s_for PassesOwn.never rfl (si_zip (by rfl) nb.b_zip (se_var (pv 5)) (se_var (pv 7))) (sg_tup rfl (sgs_cons (sg_name (pg_name (i := 6) sc_joint_of.nd rfl (by first | exact .inl rfl | exact .inr rfl))) (sgs_cons (sg_name (pg_name (i := 2) sc_joint_of.nd rfl (by first | exact .inl rfl | exact .inr rfl))) sgs_nil)))
  (ss_one (s_store (se_c r_take hr (by decide) (by rfl) (sa_cons (se_ix ix_seq o2_ix (sp_var (pv 6)) (sp_var (pv 2)) (fun _ _ => rfl)) (sa_cons (se_var (pv 3)) sa_nil))) (pg_sub (pv 6) (SP.pe (sp_var (pv 2))) set_list))))
  (ss_one (s_frz 6 (s_asg (ps_set (i := 7) sc_joint_of.nd rfl (by first | exact .inl rfl | exact .inr rfl) (SE.pe (se_bt call_tuple_of f1_tuple (by rfl) nb.b_tuple (by decide +kernel) (spa_cons (SE.sp (SL.se (sl_lc (own := [("row", 6)]) rfl sc_joint_of.nd (sip_seq (sp_var (pv 5))) (blkOk_by (N := N_joint_of) (sc := (defScope s_joint_of)) (by decide +kernel)) (fun _ _ _ _ _ => (sg_name (pg_name (i := 6) sc_joint_of.nd rfl (by first | exact .inl rfl | exact .inr rfl)))) (fun _ _ _ _ _ => sts_nil) (fun _ _ _ _ _ => (se_c r_first_left hr (by decide) (by rfl) (sa_cons (se_var (pv 6)) sa_nil))) (by decide)))) spa_nil)))) (fun _ _ _ h => h))))))))
  (ss_one (s_ret (SL.se (sl_sortedC (room65 hr) (by rfl) nb.b_sorted (sp_var (pv 4)))))))))))
theorem ok_told_joint (cv_check_lots : CalV P w K mg base 7 "check_lots" CC g_check_lots) (r_joint_of : CalR P w K mg base 5 "joint_of" f_joint_of) : ∀ f fd, Fun K "told_joint" "told_joint" s_told_joint f fd → FnOk P w K mg base (L2N.CX P w) 8 f fd ["lots"] (spV K CC g_told_joint) := fun f fd F => def_okV (m := b_told_joint) 1 1 F sc_told_joint rfl rfl fun cdv A outer s H E hr =>
  (svs_cons (sv_call (pe_callV cv_check_lots (L2N.takes_of rfl rfl rfl rfl) hr (by decide) (by rfl) (sa_cons (se_var (pv 0)) sa_nil)))
  (svs_one (sv_of (s_ret (se_c r_joint_of hr (by decide) (by rfl) (sa_cons (se_var (pv 0)) sa_nil))))))
theorem ok_split_of (r_least_chances : CalR P w K mg base 4 "least_chances" f_least_chances) (nb : Nb mg) : ∀ f fd, Fun K "split_of" "split_of" s_split_of f fd → FnOk P w K mg base CX0 5 f fd ["lots"] (spF K f_split_of) := fun f fd F => def_ok (m := b_split_of) 1 7 F sc_split_of rfl rfl fun cdv A outer s H E hr =>
  (ss_cons (s_asg (ps_set (i := 1) sc_split_of.nd rfl (by first | exact .inl rfl | exact .inr rfl) (SE.pe (se_c r_least_chances hr (by decide) (by rfl) (sa_cons (se_var (pv 0)) sa_nil)))) (fun _ _ _ h => h))
  (ss_cons (s_own (ps_set (i := 2) sc_split_of.nd rfl (by first | exact .inl rfl | exact .inr rfl) (SL.pe (sl_lst sa_nil))) (fun _ _ _ h => h))
  (ss_cons (s_for PassesOwn.never rfl (si_enum (by rfl) nb.b_enumerate (se_var (pv 1))) (sg_tup rfl (sgs_cons (sg_name (pg_name (i := 3) sc_split_of.nd rfl (by first | exact .inl rfl | exact .inr rfl))) (sgs_cons (sg_name (pg_name (i := 4) sc_split_of.nd rfl (by first | exact .inl rfl | exact .inr rfl))) sgs_nil)))
  (ss_one (s_app (pv 2) (se_bi (cr_min rfl) f1_minL (by rfl) nb.b_min (by decide +kernel) (spa_cons (SE.sp (SL.se (sl_lc (own := [("position", 5), ("lot", 6)]) rfl sc_split_of.nd (sip_enum (by rfl) nb.b_enumerate (sp_var (pv 0))) (blkOk_by (N := N_split_of) (sc := (defScope s_split_of)) (by decide +kernel)) (fun _ _ _ _ _ => (sg_tup rfl (sgs_cons (sg_name (pg_name (i := 5) sc_split_of.nd rfl (by first | exact .inl rfl | exact .inr rfl))) (sgs_cons (sg_name (pg_name (i := 6) sc_split_of.nd rfl (by first | exact .inl rfl | exact .inr rfl))) sgs_nil)))) (fun _ _ _ _ _ => (sts_one (st_cmp (op_eqD hr.units) c2_eq (SE.sp (se_ix ix_seq o2_ix (sp_var (pv 6)) (sp_var (pv 3)) (fun _ _ => rfl))) (sp_var (pv 4)) (nomark _)))) (fun _ _ _ _ _ => (se_var (pv 5))) (by decide)))) spa_nil)))))
  (ss_one (s_frz 2 (s_ret (se_var (pv 2))))))))
theorem ok_told_split (cv_check_lots : CalV P w K mg base 7 "check_lots" CC g_check_lots) (r_split_of : CalR P w K mg base 5 "split_of" f_split_of) : ∀ f fd, Fun K "told_split" "told_split" s_told_split f fd → FnOk P w K mg base (L2N.CX P w) 8 f fd ["lots"] (spV K CC g_told_split) := fun f fd F => def_okV (m := b_told_split) 1 1 F sc_told_split rfl rfl fun cdv A outer s H E hr =>
  (svs_cons (sv_call (pe_callV cv_check_lots (L2N.takes_of rfl rfl rfl rfl) hr (by decide) (by rfl) (sa_cons (se_var (pv 0)) sa_nil)))
  (svs_one (sv_of (s_ret (se_c r_split_of hr (by decide) (by rfl) (sa_cons (se_var (pv 0)) sa_nil))))))
theorem ok_is_within (r_is_integer : CalR P w K mg base 1 "is_integer" f_is_integer) : ∀ f fd, Fun K "is_within" "is_within" s_is_within f fd → FnOk P w K mg base CX0 2 f fd ["value", "least", "most"] (spF K f_is_within) := fun f fd F => def_ok (m := b_is_within) 3 3 F sc_is_within rfl rfl fun cdv A outer s H E hr =>
  (ss_one (s_ret (se_and (se_c r_is_integer hr (by decide) (by rfl) (sa_cons (se_var (pv 0)) sa_nil)) (se_one (se_chain op_le op_le c2_int c2_int (sp_var (pv 1)) (sp_var (pv 0)) (sp_var (pv 2)))))))
theorem ok_is_joint_row (r_is_fraction_of : CalR P w K mg base 2 "is_fraction_of" f_is_fraction_of) (r_is_within : CalR P w K mg base 2 "is_within" f_is_within) (nb : Nb mg) : ∀ f fd, Fun K "is_joint_row" "is_joint_row" s_is_joint_row f fd → FnOk P w K mg base CX0 3 f fd ["lots", "value"] (spF K f_is_joint_row) := fun f fd F => def_ok (m := b_is_joint_row) 2 3 F sc_is_joint_row rfl rfl fun cdv A outer s H E hr =>
  (ss_cons (s_if (SW.st (sw_or (st_not (st_val (SE.sp (se_bi cr_isi f1_isi (by rfl) nb.b_isinstance (by decide +kernel) (spa_cons (sp_var (pv 1)) (spa_cons (SE.sp (se_ty (by rfl) nb.b_tuple (by decide +kernel))) spa_nil)))))) (sw_or (st_cmp (op_neD hr.units) c2_ne (SE.sp (se_bi cr_len f1_len (by rfl) nb.b_len (by decide +kernel) (spa_cons (sp_var (pv 1)) spa_nil))) (SE.sp se_int) (nomark _)) (sw_or (st_not (st_val (SE.sp (se_c r_is_fraction_of hr (by decide) (by rfl) (sa_cons (se_ix ix_seq o2_ix (sp_var (pv 1)) (SE.sp se_int) (fun _ _ => rfl)) sa_nil))))) (sw_or1 (st_cmp (op_ltA (room65 hr)) c2_ltA (SE.sp (se_ix ix_seq o2_ix (SE.sp (se_ix ix_seq o2_ix (sp_var (pv 1)) (SE.sp se_int) (fun _ _ => rfl))) (SE.sp se_int) (fun _ _ => rfl))) (SE.sp se_int) (nomark _)))))))
  (ss_one (s_ret se_bl))
  ss_nil)
  (ss_cons (s_if (SW.st (sw_or (st_not (st_val (SE.sp (se_bi cr_isi f1_isi (by rfl) nb.b_isinstance (by decide +kernel) (spa_cons (SE.sp (se_ix ix_seq o2_ix (sp_var (pv 1)) (SE.sp se_int) (fun _ _ => rfl))) (spa_cons (SE.sp (se_ty (by rfl) nb.b_tuple (by decide +kernel))) spa_nil)))))) (sw_or1 (st_cmp (op_neD hr.units) c2_ne (SE.sp (se_bi cr_len f1_len (by rfl) nb.b_len (by decide +kernel) (spa_cons (SE.sp (se_ix ix_seq o2_ix (sp_var (pv 1)) (SE.sp se_int) (fun _ _ => rfl))) spa_nil))) (SE.sp (se_bi cr_len f1_len (by rfl) nb.b_len (by decide +kernel) (spa_cons (sp_var (pv 0)) spa_nil))) (nomark _)))))
  (ss_one (s_ret se_bl))
  ss_nil)
  (ss_one (s_ret (se_bi (cr_all rfl) f1_all (by rfl) nb.b_all (by decide +kernel) (spa_cons (SE.sp (SL.se (sl_lc (own := [("place", 2)]) rfl sc_is_joint_row.nd (sip_seq (SE.sp (se_ix ix_seq o2_ix (sp_var (pv 1)) (SE.sp se_int) (fun _ _ => rfl)))) (blkOk_by (N := N_is_joint_row) (sc := (defScope s_is_joint_row)) (by decide +kernel)) (fun _ _ _ _ _ => (sg_name (pg_name (i := 2) sc_is_joint_row.nd rfl (by first | exact .inl rfl | exact .inr rfl)))) (fun _ _ _ _ _ => sts_nil) (fun _ _ _ _ _ => (se_c r_is_within hr (by decide) (by rfl) (sa_cons (se_var (pv 2)) (sa_cons se_int (sa_cons (se_op op_sub o2_sub (SE.sp (se_bi cr_len f1_len (by rfl) nb.b_len (by decide +kernel) (spa_cons (SE.sp (se_ix ix_seq o2_ix (sp_var (pv 0)) (SE.sp se_int) (fun _ _ => rfl))) spa_nil))) (SE.sp se_int)) sa_nil))))) (by decide)))) spa_nil))))))
theorem ok_sums_at (r_add : CalR P w K mg base 3 "add" f_add) (k_NOUGHT : ConR K mg "NOUGHT" (.tup [(.int 0), (.int 1)])) (nb : Nb mg) : ∀ f fd, Fun K "sums_at" "sums_at" s_sums_at f fd → FnOk P w K mg base CX0 4 f fd ["lots", "rows", "position"] (spF K f_sums_at) := fun f fd F => def_ok (m := b_sums_at) 3 6 F sc_sums_at rfl rfl fun cdv A outer s H E hr =>
  (ss_cons (s_own (ps_set (i := 3) sc_sums_at.nd rfl (by first | exact .inl rfl | exact .inr rfl) (SL.pe (sl_rep (SE.sp (SL.se (sl_lst (sa_cons (se_con k_NOUGHT (by rfl)) sa_nil)))) (SE.sp (se_bi cr_len f1_len (by rfl) nb.b_len (by decide +kernel) (spa_cons (SE.sp (se_ix ix_seq o2_ix (sp_var (pv 0)) (SE.sp se_int) (fun _ _ => rfl))) spa_nil)))))) (fun _ _ _ h => h))
  (ss_cons (s_for PassesOwn.never rfl (si_seq (se_var (pv 1))) (sg_tup rfl (sgs_cons (sg_name (pg_name (i := 4) sc_sums_at.nd rfl (by first | exact .inl rfl | exact .inr rfl))) (sgs_cons (sg_name (pg_name (i := 5) sc_sums_at.nd rfl (by first | exact .inl rfl | exact .inr rfl))) sgs_nil)))
  (ss_one (s_store (se_c r_add hr (by decide) (by rfl) (sa_cons (se_ix ix_seq o2_ix (sp_var (pv 3)) (SE.sp (se_ix ix_seq o2_ix (sp_var (pv 4)) (sp_var (pv 2)) (fun _ _ => rfl))) (fun _ _ => rfl)) (sa_cons (se_var (pv 5)) sa_nil))) (pg_sub (pv 3) (SP.pe (SE.sp (se_ix ix_seq o2_ix (sp_var (pv 4)) (sp_var (pv 2)) (fun _ _ => rfl)))) set_list))))
  (ss_one (s_ret (se_bt call_tuple_of f1_tuple (by rfl) nb.b_tuple (by decide +kernel) (spa_cons (sp_var (pv 3)) spa_nil))))))
theorem ok_is_joint_of (r_is_list : CalR P w K mg base 1 "is_list" f_is_list) (r_is_joint_row : CalR P w K mg base 3 "is_joint_row" f_is_joint_row) (r_sums_at : CalR P w K mg base 4 "sums_at" f_sums_at) (nb : Nb mg) : ∀ f fd, Fun K "is_joint_of" "is_joint_of" s_is_joint_of f fd → FnOk P w K mg base CX0 5 f fd ["lots", "value"] (spF K f_is_joint_of) := fun f fd F => def_ok (m := b_is_joint_of) 2 6 F sc_is_joint_of rfl rfl fun cdv A outer s H E hr =>
  (ss_cons (s_if (SW.st (sw_or (st_not (st_val (SE.sp (se_c r_is_list hr (by decide) (by rfl) (sa_cons (se_var (pv 1)) sa_nil))))) (sw_or1 (st_not (st_val (SE.sp (se_bi (cr_all rfl) f1_all (by rfl) nb.b_all (by decide +kernel) (spa_cons (SE.sp (SL.se (sl_lc (own := [("row", 4)]) rfl sc_is_joint_of.nd (sip_seq (sp_var (pv 1))) (blkOk_by (N := N_is_joint_of) (sc := (defScope s_is_joint_of)) (by decide +kernel)) (fun _ _ _ _ _ => (sg_name (pg_name (i := 4) sc_is_joint_of.nd rfl (by first | exact .inl rfl | exact .inr rfl)))) (fun _ _ _ _ _ => sts_nil) (fun _ _ _ _ _ => (se_c r_is_joint_row hr (by decide) (by rfl) (sa_cons (se_var (pv 0)) (sa_cons (se_var (pv 4)) sa_nil)))) (by decide)))) spa_nil))))))))
  (ss_one (s_ret se_bl))
  ss_nil)
  (ss_cons (s_if (st_not (st_val (SE.sp (se_bi (cr_all rfl) f1_all (by rfl) nb.b_all (by decide +kernel) (spa_cons (SE.sp (SL.se (sl_lc (own := [("row", 4), ("late", 5)]) rfl sc_is_joint_of.nd (sip_zip (by rfl) nb.b_zip (sp_var (pv 1)) (SE.sp (se_cut (sp_var (pv 1)) (so_some (SE.sp se_int)) so_none))) (blkOk_by (N := N_is_joint_of) (sc := (defScope s_is_joint_of)) (by decide +kernel)) (fun _ _ _ _ _ => (sg_tup rfl (sgs_cons (sg_name (pg_name (i := 4) sc_is_joint_of.nd rfl (by first | exact .inl rfl | exact .inr rfl))) (sgs_cons (sg_name (pg_name (i := 5) sc_is_joint_of.nd rfl (by first | exact .inl rfl | exact .inr rfl))) sgs_nil)))) (fun _ _ _ _ _ => sts_nil) (fun _ _ _ _ _ => (se_cmp (op_ltA (room65 hr)) c2_ltA (SE.sp (se_ix ix_seq o2_ix (sp_var (pv 4)) (SE.sp se_int) (fun _ _ => rfl))) (SE.sp (se_ix ix_seq o2_ix (sp_var (pv 5)) (SE.sp se_int) (fun _ _ => rfl))) (nomark _))) (by decide)))) spa_nil)))))
  (ss_one (s_ret se_bl))
  ss_nil)
  (ss_one (s_ret (se_bi (cr_all rfl) f1_all (by rfl) nb.b_all (by decide +kernel) (spa_cons (SE.sp (SL.se (sl_lc (own := [("position", 2), ("lot", 3)]) rfl sc_is_joint_of.nd (sip_enum (by rfl) nb.b_enumerate (sp_var (pv 0))) (blkOk_by (N := N_is_joint_of) (sc := (defScope s_is_joint_of)) (by decide +kernel)) (fun _ _ _ _ _ => (sg_tup rfl (sgs_cons (sg_name (pg_name (i := 2) sc_is_joint_of.nd rfl (by first | exact .inl rfl | exact .inr rfl))) (sgs_cons (sg_name (pg_name (i := 3) sc_is_joint_of.nd rfl (by first | exact .inl rfl | exact .inr rfl))) sgs_nil)))) (fun _ _ _ _ _ => sts_nil) (fun _ _ _ _ _ => (se_cmp (op_eqD hr.units) c2_eq (SE.sp (se_c r_sums_at hr (by decide) (by rfl) (sa_cons (se_var (pv 0)) (sa_cons (se_var (pv 1)) (sa_cons (se_var (pv 2)) sa_nil))))) (sp_var (pv 3)) (nomark _))) (by decide)))) spa_nil))))))
theorem ok_is_joint (cv_check_lots : CalV P w K mg base 7 "check_lots" CC g_check_lots) (r_is_joint_of : CalR P w K mg base 5 "is_joint_of" f_is_joint_of) : ∀ f fd, Fun K "is_joint" "is_joint" s_is_joint f fd → FnOk P w K mg base (L2N.CX P w) 8 f fd ["lots", "value"] (spV K CC g_is_joint) := fun f fd F => def_okV (m := b_is_joint) 2 2 F sc_is_joint rfl rfl fun cdv A outer s H E hr =>
  (svs_cons (sv_call (pe_callV cv_check_lots (L2N.takes_of rfl rfl rfl rfl) hr (by decide) (by rfl) (sa_cons (se_var (pv 0)) sa_nil)))
  (svs_one (sv_of (s_ret (se_c r_is_joint_of hr (by decide) (by rfl) (sa_cons (se_var (pv 0)) (sa_cons (se_var (pv 1)) sa_nil)))))))
theorem ok_has_of (r_total : CalR P w K mg base 4 "total" f_total) : ∀ f fd, Fun K "has_of" "has_of" s_has_of f fd → FnOk P w K mg base CX0 5 f fd ["lot", "places"] (spF K f_has_of) := fun f fd F => def_ok (m := b_has_of) 2 3 F sc_has_of rfl rfl fun cdv A outer s H E hr =>
  (ss_one (s_ret (se_c r_total hr (by decide) (by rfl) (sa_cons (SL.se (sl_lc (own := [("place", 2)]) rfl sc_has_of.nd (sip_seq (sp_var (pv 1))) (blkOk_by (N := N_has_of) (sc := (defScope s_has_of)) (by decide +kernel)) (fun _ _ _ _ _ => (sg_name (pg_name (i := 2) sc_has_of.nd rfl (by first | exact .inl rfl | exact .inr rfl)))) (fun _ _ _ _ _ => sts_nil) (fun _ _ _ _ _ => (se_ix ix_seq o2_ix (sp_var (pv 0)) (sp_var (pv 2)) (fun _ _ => rfl))) (by decide))) sa_nil))))
theorem ok_are_places (r_is_list : CalR P w K mg base 1 "is_list" f_is_list) (r_is_within : CalR P w K mg base 2 "is_within" f_is_within) (nb : Nb mg) : ∀ f fd, Fun K "are_places" "are_places" s_are_places f fd → FnOk P w K mg base CX0 3 f fd ["many", "value"] (spF K f_are_places) := fun f fd F => def_ok (m := b_are_places) 2 3 F sc_are_places rfl rfl fun cdv A outer s H E hr =>
  (ss_cons (s_if (SW.st (sw_or (st_not (st_val (SE.sp (se_c r_is_list hr (by decide) (by rfl) (sa_cons (se_var (pv 1)) sa_nil))))) (sw_or1 (st_not (st_val (SE.sp (se_bi (cr_all rfl) f1_all (by rfl) nb.b_all (by decide +kernel) (spa_cons (SE.sp (SL.se (sl_lc (own := [("one", 2)]) rfl sc_are_places.nd (sip_seq (sp_var (pv 1))) (blkOk_by (N := N_are_places) (sc := (defScope s_are_places)) (by decide +kernel)) (fun _ _ _ _ _ => (sg_name (pg_name (i := 2) sc_are_places.nd rfl (by first | exact .inl rfl | exact .inr rfl)))) (fun _ _ _ _ _ => sts_nil) (fun _ _ _ _ _ => (se_c r_is_within hr (by decide) (by rfl) (sa_cons (se_var (pv 2)) (sa_cons se_int (sa_cons (se_op op_sub o2_sub (sp_var (pv 0)) (SE.sp se_int)) sa_nil))))) (by decide)))) spa_nil))))))))
  (ss_one (s_ret se_bl))
  ss_nil)
  (ss_one (s_ret (se_cmp (op_eqD hr.units) c2_eq (SE.sp (se_lensetE (by rfl) nb.b_len (by rfl) nb.b_set (sp_var (pv 1)))) (SE.sp (se_bi cr_len f1_len (by rfl) nb.b_len (by decide +kernel) (spa_cons (sp_var (pv 1)) spa_nil))) (nomark _)))))
theorem ok_check_places (cl : Cls P w K mg base) (r_are_places : CalR P w K mg base 3 "are_places" f_are_places) : ∀ f fd, Fun K "check_places" "check_places" s_check_places f fd → FnOk P w K mg base (L2N.CX P w) 4 f fd ["many", "value"] (spV K CC g_check_places) := fun f fd F => def_okV (m := b_check_places) 2 2 F sc_check_places rfl rfl fun cdv A outer s H E hr =>
  (svs_one (sv_if (st_not (st_val (SE.sp (se_c r_are_places hr (by decide) (by rfl) (sa_cons (se_var (pv 0)) (sa_cons (se_var (pv 1)) sa_nil))))))
  (svs_one (sv_raiseW (k := 4) cl.v_InvalidPlaces rfl (L2N.takes_of rfl rfl rfl rfl) rfl (hr.mono (by decide)) (by rfl) (sa_cons (se_var (pv 1)) sa_nil)))
  svs_nil))
theorem ok_gap (cl : Cls P w K mg base) (cv_check_two : CalV P w K mg base 8 "check_two" CC g_check_two) (cv_check_places : CalV P w K mg base 4 "check_places" CC g_check_places) (r_take : CalR P w K mg base 3 "take" f_take) (r_has_of : CalR P w K mg base 5 "has_of" f_has_of) (nb : Nb mg) : ∀ f fd, Fun K "gap" "gap" s_gap f fd → FnOk P w K mg base (L2N.CX P w) 9 f fd ["lot", "other", "places"] (spV K CC g_gap) := fun f fd F => def_okV (m := b_gap) 3 3 F sc_gap rfl rfl fun cdv A outer s H E hr =>
  (svs_cons (sv_call (pe_callV cv_check_two (L2N.takes_of rfl rfl rfl rfl) hr (by decide) (by rfl) (sa_cons (se_var (pv 0)) (sa_cons (se_var (pv 1)) sa_nil))))
  (svs_cons (sv_call (pe_callV cv_check_places (L2N.takes_of rfl rfl rfl rfl) hr (by decide) (by rfl) (sa_cons (se_bi cr_len f1_len (by rfl) nb.b_len (by decide +kernel) (spa_cons (sp_var (pv 0)) spa_nil)) (sa_cons (se_var (pv 2)) sa_nil))))
  (svs_cons (sv_if (st_cmp (op_neD hr.units) c2_ne (SE.sp (se_bi cr_len f1_len (by rfl) nb.b_len (by decide +kernel) (spa_cons (sp_var (pv 0)) spa_nil))) (SE.sp (se_bi cr_len f1_len (by rfl) nb.b_len (by decide +kernel) (spa_cons (sp_var (pv 1)) spa_nil))) (nomark _))
  (svs_one (sv_raiseN' (k := 5) cl.n_UnlikePlaces rfl (L2N.takes_of rfl rfl rfl rfl) rfl (by rfl)))
  svs_nil)
  (svs_one (sv_of (s_ret (se_c r_take hr (by decide) (by rfl) (sa_cons (se_c r_has_of hr (by decide) (by rfl) (sa_cons (se_var (pv 0)) (sa_cons (se_var (pv 2)) sa_nil))) (sa_cons (se_c r_has_of hr (by decide) (by rfl) (sa_cons (se_var (pv 1)) (sa_cons (se_var (pv 2)) sa_nil))) sa_nil)))))))))
theorem ok_alike_part (cl : Cls P w K mg base) (cv_check_lots : CalV P w K mg base 7 "check_lots" CC g_check_lots) (r_is_joint_of : CalR P w K mg base 5 "is_joint_of" f_is_joint_of) (r_total : CalR P w K mg base 4 "total" f_total) (nb : Nb mg) : ∀ f fd, Fun K "alike_part" "alike_part" s_alike_part f fd → FnOk P w K mg base (L2N.CX P w) 8 f fd ["lots", "joint"] (spV K CC g_alike_part) := fun f fd F => def_okV (m := b_alike_part) 2 4 F sc_alike_part rfl rfl fun cdv A outer s H E hr =>
  (svs_cons (sv_call (pe_callV cv_check_lots (L2N.takes_of rfl rfl rfl rfl) hr (by decide) (by rfl) (sa_cons (se_var (pv 0)) sa_nil)))
  (svs_cons (sv_if (st_not (st_val (SE.sp (se_c r_is_joint_of hr (by decide) (by rfl) (sa_cons (se_var (pv 0)) (sa_cons (se_var (pv 1)) sa_nil))))))
  (svs_one (sv_raiseW (k := 0) cl.v_InvalidJoint rfl (L2N.takes_of rfl rfl rfl rfl) rfl (hr.mono (by decide)) (by rfl) (sa_cons (se_var (pv 1)) sa_nil)))
  svs_nil)
  (svs_one (sv_of (s_ret (se_c r_total hr (by decide) (by rfl) (sa_cons (SL.se (sl_lc (own := [("places", 2), ("one", 3)]) rfl sc_alike_part.nd (sip_seq (sp_var (pv 1))) (blkOk_by (N := N_alike_part) (sc := (defScope s_alike_part)) (by decide +kernel)) (fun _ _ _ _ _ => (sg_tup rfl (sgs_cons (sg_name (pg_name (i := 2) sc_alike_part.nd rfl (by first | exact .inl rfl | exact .inr rfl))) (sgs_cons (sg_name (pg_name (i := 3) sc_alike_part.nd rfl (by first | exact .inl rfl | exact .inr rfl))) sgs_nil)))) (fun _ _ _ _ _ => (sts_one (st_cmp (op_eqD hr.units) c2_eq (SE.sp (se_lensetE (by rfl) nb.b_len (by rfl) nb.b_set (sp_var (pv 2)))) (SE.sp se_int) (nomark _)))) (fun _ _ _ _ _ => (se_var (pv 3))) (by decide))) sa_nil)))))))
theorem ok_check_fraction (cl : Cls P w K mg base) (r_is_short : CalR P w K mg base 3 "is_short" f_is_short) : ∀ f fd, Fun K "check_fraction" "check_fraction" s_check_fraction f fd → FnOk P w K mg base (L2N.CX P w) 4 f fd ["value"] (spV K CC g_check_fraction) := fun f fd F => def_okV (m := b_check_fraction) 1 1 F sc_check_fraction rfl rfl fun cdv A outer s H E hr =>
  (svs_one (sv_if (st_not (st_val (SE.sp (se_c r_is_short hr (by decide) (by rfl) (sa_cons (se_var (pv 0)) sa_nil)))))
  (svs_one (sv_raiseW (k := 1) cl.v_InvalidFraction rfl (L2N.takes_of rfl rfl rfl rfl) rfl (hr.mono (by decide)) (by rfl) (sa_cons (se_var (pv 0)) sa_nil)))
  svs_nil))
theorem ok_is_split (cv_check_lots : CalV P w K mg base 7 "check_lots" CC g_check_lots) (cv_check_fraction : CalV P w K mg base 4 "check_fraction" CC g_check_fraction) (r_is_list : CalR P w K mg base 1 "is_list" f_is_list) (r_is_within : CalR P w K mg base 2 "is_within" f_is_within) (r_is_below : CalR P w K mg base 1 "is_below" f_is_below) (r_total : CalR P w K mg base 4 "total" f_total) (nb : Nb mg) : ∀ f fd, Fun K "is_split" "is_split" s_is_split f fd → FnOk P w K mg base (L2N.CX P w) 8 f fd ["lots", "fraction", "value"] (spV K CC g_is_split) := fun f fd F => def_okV (m := b_is_split) 3 5 F sc_is_split rfl rfl fun cdv A outer s H E hr =>
  (svs_cons (sv_call (pe_callV cv_check_lots (L2N.takes_of rfl rfl rfl rfl) hr (by decide) (by rfl) (sa_cons (se_var (pv 0)) sa_nil)))
  (svs_cons (sv_call (pe_callV cv_check_fraction (L2N.takes_of rfl rfl rfl rfl) hr (by decide) (by rfl) (sa_cons (se_var (pv 1)) sa_nil)))
  (svs_cons (sv_of (s_if (SW.st (sw_or (st_not (st_val (SE.sp (se_c r_is_list hr (by decide) (by rfl) (sa_cons (se_var (pv 2)) sa_nil))))) (sw_or1 (st_cmp (op_neD hr.units) c2_ne (SE.sp (se_bi cr_len f1_len (by rfl) nb.b_len (by decide +kernel) (spa_cons (sp_var (pv 2)) spa_nil))) (SE.sp (se_bi cr_len f1_len (by rfl) nb.b_len (by decide +kernel) (spa_cons (SE.sp (se_ix ix_seq o2_ix (sp_var (pv 0)) (SE.sp se_int) (fun _ _ => rfl))) spa_nil))) (nomark _)))))
  (ss_one (s_ret se_bl))
  ss_nil))
  (svs_cons (sv_of (s_if (st_not (st_val (SE.sp (se_bi (cr_all rfl) f1_all (by rfl) nb.b_all (by decide +kernel) (spa_cons (SE.sp (SL.se (sl_lc (own := [("position", 3)]) rfl sc_is_split.nd (sip_seq (sp_var (pv 2))) (blkOk_by (N := N_is_split) (sc := (defScope s_is_split)) (by decide +kernel)) (fun _ _ _ _ _ => (sg_name (pg_name (i := 3) sc_is_split.nd rfl (by first | exact .inl rfl | exact .inr rfl)))) (fun _ _ _ _ _ => sts_nil) (fun _ _ _ _ _ => (se_c r_is_within hr (by decide) (by rfl) (sa_cons (se_var (pv 3)) (sa_cons se_int (sa_cons (se_op op_sub o2_sub (SE.sp (se_bi cr_len f1_len (by rfl) nb.b_len (by decide +kernel) (spa_cons (sp_var (pv 0)) spa_nil))) (SE.sp se_int)) sa_nil))))) (by decide)))) spa_nil)))))
  (ss_one (s_ret se_bl))
  ss_nil))
  (svs_one (sv_of (s_ret (se_c r_is_below hr (by decide) (by rfl) (sa_cons (se_c r_total hr (by decide) (by rfl) (sa_cons (SL.se (sl_lc (own := [("place", 4), ("position", 3)]) rfl sc_is_split.nd (sip_enum (by rfl) nb.b_enumerate (sp_var (pv 2))) (blkOk_by (N := N_is_split) (sc := (defScope s_is_split)) (by decide +kernel)) (fun _ _ _ _ _ => (sg_tup rfl (sgs_cons (sg_name (pg_name (i := 4) sc_is_split.nd rfl (by first | exact .inl rfl | exact .inr rfl))) (sgs_cons (sg_name (pg_name (i := 3) sc_is_split.nd rfl (by first | exact .inl rfl | exact .inr rfl))) sgs_nil)))) (fun _ _ _ _ _ => sts_nil) (fun _ _ _ _ _ => (se_ix ix_seq o2_ix (SE.sp (se_ix ix_seq o2_ix (sp_var (pv 0)) (sp_var (pv 3)) (fun _ _ => rfl))) (sp_var (pv 4)) (fun _ _ => rfl))) (by decide))) sa_nil)) (sa_cons (se_var (pv 1)) sa_nil))))))))))
theorem clo_ok_0 (cv_distance : CalV P w K mg base 10 "distance" CC g_distance) : CloOk P w K mg base 11 CC 0 cf_0 := ⟨_, rfl, ⟨NdefX.nscope_by (by decide +kernel), fun _ _ _ _ => rfl⟩, fun A outer s H E f c cl hr => (clo_call cv_distance hr (by decide) rfl (sa_cons (se_var (pv 1)) (sa_cons (se_var (pv 0)) sa_nil)))⟩
theorem clo_ok_1 (cvk_showing_other_lot : CalKV P w K mg base 10 "showing" CC g_showing ["other", "lot"] [1, 0]) : CloOk P w K mg base 11 CC 1 cf_1 := ⟨_, rfl, ⟨NdefX.nscope_by (by decide +kernel), fun _ _ _ _ => rfl⟩, fun A outer s H E f c cl hr => (clo_callK cvk_showing_other_lot hr (by decide) rfl (sk_cons (se_var (pv 0)) (sk_cons (se_var (pv 1)) sk_nil)))⟩
theorem clo_ok_2 (cv_alike_pairing : CalV P w K mg base 10 "alike_pairing" CC g_alike_pairing) : CloOk P w K mg base 11 CC 2 cf_2 := ⟨_, rfl, ⟨NdefX.nscope_by (by decide +kernel), fun _ _ _ _ => rfl⟩, fun A outer s H E f c cl hr => (clo_call cv_alike_pairing hr (by decide) rfl (sa_cons (se_var (pv 1)) (sa_cons (se_var (pv 0)) sa_nil)))⟩
theorem clo_ok_3 (cvk_is_nearest_value_other_lot : CalKV P w K mg base 10 "is_nearest" CC g_is_nearest ["value", "other", "lot"] [2, 1, 0]) : CloOk P w K mg base 11 CC 3 cf_3 := ⟨_, rfl, ⟨NdefX.nscope_by (by decide +kernel), fun _ _ _ _ => rfl⟩, fun A outer s H E f c cl hr => (clo_callK cvk_is_nearest_value_other_lot hr (by decide) rfl (sk_cons se_non (sk_cons (se_var (pv 0)) (sk_cons (se_var (pv 1)) sk_nil))))⟩
theorem clo_ok_4 (cv_most_alike : CalV P w K mg base 8 "most_alike" CC g_most_alike) : CloOk P w K mg base 11 CC 4 cf_4 := ⟨_, rfl, ⟨NdefX.nscope_by (by decide +kernel), fun _ _ _ _ => rfl⟩, fun A outer s H E f c cl hr => (clo_call cv_most_alike hr (by decide) rfl (sa_cons (se_var (pv 0)) sa_nil))⟩
theorem clo_ok_5 (cvk_told_joint_lots : CalKV P w K mg base 8 "told_joint" CC g_told_joint ["lots"] [0]) : CloOk P w K mg base 11 CC 5 cf_5 := ⟨_, rfl, ⟨NdefX.nscope_by (by decide +kernel), fun _ _ _ _ => rfl⟩, fun A outer s H E f c cl hr => (clo_callK cvk_told_joint_lots hr (by decide) rfl (sk_cons (se_var (pv 0)) sk_nil))⟩
theorem clo_ok_6 (cv_told_split : CalV P w K mg base 8 "told_split" CC g_told_split) : CloOk P w K mg base 11 CC 6 cf_6 := ⟨_, rfl, ⟨NdefX.nscope_by (by decide +kernel), fun _ _ _ _ => rfl⟩, fun A outer s H E f c cl hr => (clo_call cv_told_split hr (by decide) rfl (sa_cons (se_var (pv 0)) sa_nil))⟩
theorem clo_ok_7 (cv_is_joint : CalV P w K mg base 8 "is_joint" CC g_is_joint) : CloOk P w K mg base 11 CC 7 cf_7 := ⟨_, rfl, ⟨NdefX.nscope_by (by decide +kernel), fun _ _ _ _ => rfl⟩, fun A outer s H E f c cl hr => (clo_call cv_is_joint hr (by decide) rfl (sa_cons (se_var (pv 0)) (sa_cons se_non sa_nil)))⟩
theorem clo_ok_8 (cv_gap : CalV P w K mg base 9 "gap" CC g_gap) : CloOk P w K mg base 11 CC 8 cf_8 := ⟨_, rfl, ⟨NdefX.nscope_by (by decide +kernel), fun _ _ _ _ => rfl⟩, fun A outer s H E f c cl hr => (clo_call cv_gap hr (by decide) rfl (sa_cons (se_var (pv 0)) (sa_cons se_non (sa_cons se_non sa_nil))))⟩
theorem clo_ok_9 (cvk_gap_places_other_lot : CalKV P w K mg base 9 "gap" CC g_gap ["places", "other", "lot"] [2, 1, 0]) : CloOk P w K mg base 11 CC 9 cf_9 := ⟨_, rfl, ⟨NdefX.nscope_by (by decide +kernel), fun _ _ _ _ => rfl⟩, fun A outer s H E f c cl hr => (clo_callK cvk_gap_places_other_lot hr (by decide) rfl (sk_cons se_non (sk_cons (se_var (pv 0)) (sk_cons (se_var (pv 1)) sk_nil))))⟩
theorem clo_ok_10 (cv_alike_part : CalV P w K mg base 8 "alike_part" CC g_alike_part) : CloOk P w K mg base 11 CC 10 cf_10 := ⟨_, rfl, ⟨NdefX.nscope_by (by decide +kernel), fun _ _ _ _ => rfl⟩, fun A outer s H E f c cl hr => (clo_call cv_alike_part hr (by decide) rfl (sa_cons (se_var (pv 0)) (sa_cons se_non sa_nil)))⟩
theorem clo_ok_11 (cv_is_split : CalV P w K mg base 8 "is_split" CC g_is_split) : CloOk P w K mg base 11 CC 11 cf_11 := ⟨_, rfl, ⟨NdefX.nscope_by (by decide +kernel), fun _ _ _ _ => rfl⟩, fun A outer s H E f c cl hr => (clo_call cv_is_split hr (by decide) rfl (sa_cons (se_var (pv 0)) (sa_cons se_non (sa_cons se_non sa_nil))))⟩
theorem clo_ok_12 (cvk_alike_part_joint_lots : CalKV P w K mg base 8 "alike_part" CC g_alike_part ["joint", "lots"] [1, 0]) : CloOk P w K mg base 11 CC 12 cf_12 := ⟨_, rfl, ⟨NdefX.nscope_by (by decide +kernel), fun _ _ _ _ => rfl⟩, fun A outer s H E f c cl hr => (clo_callK cvk_alike_part_joint_lots hr (by decide) rfl (sk_cons se_non (sk_cons (se_var (pv 0)) sk_nil)))⟩
theorem clo_ok_13 (cv_is_split : CalV P w K mg base 8 "is_split" CC g_is_split) : CloOk P w K mg base 11 CC 13 cf_13 := ⟨_, rfl, ⟨NdefX.nscope_by (by decide +kernel), fun _ _ _ _ => rfl⟩, fun A outer s H E f c cl hr => (clo_call cv_is_split hr (by decide) rfl (sa_cons (se_var (pv 0)) (sa_cons se_non (sa_cons se_non sa_nil))))⟩
theorem clo_ok_14 (cv_gap : CalV P w K mg base 9 "gap" CC g_gap) : CloOk P w K mg base 11 CC 14 cf_14 := ⟨_, rfl, ⟨NdefX.nscope_by (by decide +kernel), fun _ _ _ _ => rfl⟩, fun A outer s H E f c cl hr => (clo_call cv_gap hr (by decide) rfl (sa_cons (se_var (pv 1)) (sa_cons (se_var (pv 1)) (sa_cons (SL.se (sl_lst (sa_cons (se_var (pv 0)) sa_nil))) sa_nil))))⟩
theorem clo_ok_15 (cv_gap : CalV P w K mg base 9 "gap" CC g_gap) : CloOk P w K mg base 11 CC 15 cf_15 := ⟨_, rfl, ⟨NdefX.nscope_by (by decide +kernel), fun _ _ _ _ => rfl⟩, fun A outer s H E f c cl hr => (clo_call cv_gap hr (by decide) rfl (sa_cons (se_var (pv 1)) (sa_cons (se_var (pv 0)) (sa_cons (SL.se (sl_lst (sa_cons se_int sa_nil))) sa_nil))))⟩
theorem clo_ok_16 (cv_gap : CalV P w K mg base 9 "gap" CC g_gap) : CloOk P w K mg base 11 CC 16 cf_16 := ⟨_, rfl, ⟨NdefX.nscope_by (by decide +kernel), fun _ _ _ _ => rfl⟩, fun A outer s H E f c cl hr => (clo_call cv_gap hr (by decide) rfl (sa_cons (se_var (pv 1)) (sa_cons (se_var (pv 1)) (sa_cons (se_var (pv 0)) sa_nil))))⟩
theorem clo_ok_17 (cvk_gap_places_other_lot : CalKV P w K mg base 9 "gap" CC g_gap ["places", "other", "lot"] [2, 1, 0]) : CloOk P w K mg base 11 CC 17 cf_17 := ⟨_, rfl, ⟨NdefX.nscope_by (by decide +kernel), fun _ _ _ _ => rfl⟩, fun A outer s H E f c cl hr => (clo_callK cvk_gap_places_other_lot hr (by decide) rfl (sk_cons (se_var (pv 1)) (sk_cons (se_var (pv 0)) (sk_cons (se_var (pv 2)) sk_nil))))⟩
theorem clo_ok_18 (cv_is_split : CalV P w K mg base 8 "is_split" CC g_is_split) : CloOk P w K mg base 11 CC 18 cf_18 := ⟨_, rfl, ⟨NdefX.nscope_by (by decide +kernel), fun _ _ _ _ => rfl⟩, fun A outer s H E f c cl hr => (clo_call cv_is_split hr (by decide) rfl (sa_cons (SL.se (sl_lst (sa_cons (se_var (pv 1)) sa_nil))) (sa_cons (se_var (pv 0)) (sa_cons se_non sa_nil))))⟩
theorem clo_ok_19 (cvk_is_split_value_fraction_lots : CalKV P w K mg base 8 "is_split" CC g_is_split ["value", "fraction", "lots"] [2, 1, 0]) : CloOk P w K mg base 11 CC 19 cf_19 := ⟨_, rfl, ⟨NdefX.nscope_by (by decide +kernel), fun _ _ _ _ => rfl⟩, fun A outer s H E f c cl hr => (clo_callK cvk_is_split_value_fraction_lots hr (by decide) rfl (sk_cons se_non (sk_cons (se_var (pv 0)) (sk_cons (SL.se (sl_lst (sa_cons (se_var (pv 1)) sa_nil))) sk_nil))))⟩
theorem clo_ok_20 (cv_alike_part : CalV P w K mg base 8 "alike_part" CC g_alike_part) : CloOk P w K mg base 11 CC 20 cf_20 := ⟨_, rfl, ⟨NdefX.nscope_by (by decide +kernel), fun _ _ _ _ => rfl⟩, fun A outer s H E f c cl hr => (clo_call cv_alike_part hr (by decide) rfl (sa_cons (SL.se (sl_lst (sa_cons (se_var (pv 1)) sa_nil))) (sa_cons (se_var (pv 0)) sa_nil)))⟩
theorem clo_ok_21 (cvk_alike_part_joint_lots : CalKV P w K mg base 8 "alike_part" CC g_alike_part ["joint", "lots"] [1, 0]) : CloOk P w K mg base 11 CC 21 cf_21 := ⟨_, rfl, ⟨NdefX.nscope_by (by decide +kernel), fun _ _ _ _ => rfl⟩, fun A outer s H E f c cl hr => (clo_callK cvk_alike_part_joint_lots hr (by decide) rfl (sk_cons (se_var (pv 0)) (sk_cons (SL.se (sl_lst (sa_cons (se_var (pv 1)) sa_nil))) sk_nil)))⟩
theorem clo_ok_22 (cv_gap : CalV P w K mg base 9 "gap" CC g_gap) : CloOk P w K mg base 11 CC 22 cf_22 := ⟨_, rfl, ⟨NdefX.nscope_by (by decide +kernel), fun _ _ _ _ => rfl⟩, fun A outer s H E f c cl hr => (clo_call cv_gap hr (by decide) rfl (sa_cons (se_var (pv 0)) (sa_cons (se_var (pv 0)) (sa_cons (se_tup sa_nil) sa_nil))))⟩
theorem clo_ok_23 (cv_gap : CalV P w K mg base 9 "gap" CC g_gap) : CloOk P w K mg base 11 CC 23 cf_23 := ⟨_, rfl, ⟨NdefX.nscope_by (by decide +kernel), fun _ _ _ _ => rfl⟩, fun A outer s H E f c cl hr => (clo_call cv_gap hr (by decide) rfl (sa_cons (se_var (pv 0)) (sa_cons (se_var (pv 0)) (sa_cons (SL.se (sl_lst (sa_cons se_int (sa_cons se_int (sa_cons se_int sa_nil))))) sa_nil))))⟩
theorem clo_ok_24 (cv_is_split : CalV P w K mg base 8 "is_split" CC g_is_split) : CloOk P w K mg base 11 CC 24 cf_24 := ⟨_, rfl, ⟨NdefX.nscope_by (by decide +kernel), fun _ _ _ _ => rfl⟩, fun A outer s H E f c cl hr => (clo_call cv_is_split hr (by decide) rfl (sa_cons (SL.se (sl_lst (sa_cons (se_var (pv 0)) sa_nil))) (sa_cons (se_tup (sa_cons (se_op op_sub o2_sub (SE.sp se_int) (sp_var (pv 1))) (sa_cons se_int sa_nil))) (sa_cons se_non sa_nil))))⟩
theorem clo_ok_25 (cv_is_split : CalV P w K mg base 8 "is_split" CC g_is_split) : CloOk P w K mg base 11 CC 25 cf_25 := ⟨_, rfl, ⟨NdefX.nscope_by (by decide +kernel), fun _ _ _ _ => rfl⟩, fun A outer s H E f c cl hr => (clo_call cv_is_split hr (by decide) rfl (sa_cons (se_op or_mul o2_mul (SE.sp (SL.se (sl_lst (sa_cons (se_var (pv 0)) sa_nil)))) (SE.sp se_int)) (sa_cons (se_tup (sa_cons se_int (sa_cons (se_var (pv 1)) sa_nil))) (sa_cons (SL.se (sl_lst (sa_cons se_int (sa_cons se_int sa_nil)))) sa_nil))))⟩
theorem clo_ok_26 (cv_alike_part : CalV P w K mg base 8 "alike_part" CC g_alike_part) (r_told_joint : CalR P w K mg base 8 "told_joint" f_told_joint) : CloOk P w K mg base 11 CC 26 cf_26 := ⟨_, rfl, ⟨NdefX.nscope_by (by decide +kernel), fun _ _ _ _ => rfl⟩, fun A outer s H E f c cl hr => (clo_call cv_alike_part hr (by decide) rfl (sa_cons (se_op or_mul o2_mul (SE.sp (SL.se (sl_lst (sa_cons (se_var (pv 0)) sa_nil)))) (SE.sp se_int)) (sa_cons (se_c r_told_joint hr (by decide) (by rfl) (sa_cons (se_op or_mul o2_mul (SE.sp (SL.se (sl_lst (sa_cons (se_var (pv 0)) sa_nil)))) (SE.sp se_int)) sa_nil)) sa_nil)))⟩
theorem ok_law_heard (cl : Cls P w K mg base) (clos : ∀ n cf, cfs[n]? = some cf → CloOk P w K mg base 11 CC n cf) (nb : Nb mg) : ∀ f fd, Fun K "_law_heard" "_law_heard" s_law_heard f fd → FnG P w K mg base 13 f fd ["call"] (spF K f_law_heard) := fun f fd F => def_okG (m := b_law_heard) 1 5 F sc_law_heard rfl rfl fun cdv A outer s H E hcv hG hr =>
  (ss_cons (s_asgG (ps_asg (SE.pe (se_tup (sa_cons se_str (sa_cons se_str (sa_cons se_bl sa_nil))))) (SG.pg (sg_tup rfl (sgs_cons (sg_name (pg_name (i := 1) sc_law_heard.nd rfl (by first | exact .inl rfl | exact .inr rfl))) (sgs_cons (sg_name (pg_name (i := 2) sc_law_heard.nd rfl (by first | exact .inl rfl | exact .inr rfl))) (sgs_cons (sg_name (pg_name (i := 3) sc_law_heard.nd rfl (by first | exact .inl rfl | exact .inr rfl))) sgs_nil)))))) (fun _ _ _ h => h) (fun _ _ _ _ h => h))
  (ss_cons (s_tryV (C := CC) (mt := mtOf MTlaw_heard) (cfs := cfs) rfl rfl sc_law_heard.nd takes0N (fun _ _ => pv 0) clos (hr.mono (by decide)) (.as (i := 4) ⟨by rfl, by decide, .inl cl.c_InvalidLots⟩ rfl rfl (su_par3H (sxa_cons' (sx_of' (fun _ _ => se_str)) (sxa_cons' (sx_repr2 (nv := NV) hG hr.units cl.RX (by rfl) nb.b_repr (fun _ _ => pv 4)) (sxa_cons' (sx_isi (p2 := ⟨0, 0, 0, 0⟩) (c := .ref CA_ChanceError) IT_ChanceError cl.IK_ChanceError (by rfl) nb.b_isinstance (fun _ h => h) (fun _ _ => pv 4) (fun _ _ => (pe_cls (by rfl) cl.c_ChanceError))) sxa_nil'))) (fun _ _ _ hot ha => ps_par3H hot sc_law_heard.nd rfl rfl rfl (by decide) (by decide) (by decide) rfl rfl rfl ha (by rfl)))
  (.as (i := 4) ⟨by rfl, by decide, .inl cl.c_InvalidLot⟩ rfl rfl (su_par3H (sxa_cons' (sx_of' (fun _ _ => se_str)) (sxa_cons' (sx_repr2 (nv := NV) hG hr.units cl.RX (by rfl) nb.b_repr (fun _ _ => pv 4)) (sxa_cons' (sx_isi (p2 := ⟨0, 0, 0, 0⟩) (c := .ref CA_ChanceError) IT_ChanceError cl.IK_ChanceError (by rfl) nb.b_isinstance (fun _ h => h) (fun _ _ => pv 4) (fun _ _ => (pe_cls (by rfl) cl.c_ChanceError))) sxa_nil'))) (fun _ _ _ hot ha => ps_par3H hot sc_law_heard.nd rfl rfl rfl (by decide) (by decide) (by decide) rfl rfl rfl ha (by rfl)))
  (.as (i := 4) ⟨by rfl, by decide, .inl cl.c_InvalidPlaces⟩ rfl rfl (su_par3H (sxa_cons' (sx_of' (fun _ _ => se_str)) (sxa_cons' (sx_repr2 (nv := NV) hG hr.units cl.RX (by rfl) nb.b_repr (fun _ _ => pv 4)) (sxa_cons' (sx_isi (p2 := ⟨0, 0, 0, 0⟩) (c := .ref CA_ChanceError) IT_ChanceError cl.IK_ChanceError (by rfl) nb.b_isinstance (fun _ h => h) (fun _ _ => pv 4) (fun _ _ => (pe_cls (by rfl) cl.c_ChanceError))) sxa_nil'))) (fun _ _ _ hot ha => ps_par3H hot sc_law_heard.nd rfl rfl rfl (by decide) (by decide) (by decide) rfl rfl rfl ha (by rfl)))
  (.as (i := 4) ⟨by rfl, by decide, .inl cl.c_InvalidJoint⟩ rfl rfl (su_par3H (sxa_cons' (sx_of' (fun _ _ => se_str)) (sxa_cons' (sx_repr2 (nv := NV) hG hr.units cl.RX (by rfl) nb.b_repr (fun _ _ => pv 4)) (sxa_cons' (sx_isi (p2 := ⟨0, 0, 0, 0⟩) (c := .ty "ValueError") IT_ValueError cl.IK_ValueError (by rfl) nb.b_isinstance (fun _ h => h) (fun _ _ => pv 4) (fun _ _ => (pe_bltn (v := .ty "ValueError") (by rfl) nb.b_ValueError (by decide +kernel) rfl))) sxa_nil'))) (fun _ _ _ hot ha => ps_par3H hot sc_law_heard.nd rfl rfl rfl (by decide) (by decide) (by decide) rfl rfl rfl ha (by rfl)))
  (.as (i := 4) ⟨by rfl, by decide, .inl cl.c_InvalidFraction⟩ rfl rfl (su_par3H (sxa_cons' (sx_of' (fun _ _ => se_str)) (sxa_cons' (sx_repr2 (nv := NV) hG hr.units cl.RX (by rfl) nb.b_repr (fun _ _ => pv 4)) (sxa_cons' (sx_isi (p2 := ⟨0, 0, 0, 0⟩) (c := .ref CA_ChanceError) IT_ChanceError cl.IK_ChanceError (by rfl) nb.b_isinstance (fun _ h => h) (fun _ _ => pv 4) (fun _ _ => (pe_cls (by rfl) cl.c_ChanceError))) sxa_nil'))) (fun _ _ _ hot ha => ps_par3H hot sc_law_heard.nd rfl rfl rfl (by decide) (by decide) (by decide) rfl rfl rfl ha (by rfl)))
  (.as (i := 4) ⟨by rfl, by decide, .inl cl.c_UnlikePlaces⟩ rfl rfl (su_par3H (sxa_cons' (sx_of' (fun _ _ => se_str)) (sxa_cons' (sx_of' (fun _ _ => se_str)) (sxa_cons' (sx_isi (p2 := ⟨0, 0, 0, 0⟩) (c := .ref CA_StateError) IT_StateError cl.IK_StateError (by rfl) nb.b_isinstance (fun _ h => h) (fun _ _ => pv 4) (fun _ _ => (pe_cls (by rfl) cl.c_StateError))) sxa_nil'))) (fun _ _ _ hot ha => ps_par3H hot sc_law_heard.nd rfl rfl rfl (by decide) (by decide) (by decide) rfl rfl rfl ha (by rfl)))
  .nil)))))) (hm_of rfl cl.XMlaw_heard))
  (ss_one (s_ret (SL.se (sl_lst (sa_cons (se_var (pv 1)) (sa_cons (se_var (pv 2)) (sa_cons (se_var (pv 3)) sa_nil)))))))))
theorem ok_law_are (c_law_heard : CalG P w K mg base 13 "_law_heard" f_law_heard) : ∀ f fd, Fun K "_law_are" "_law_are" s_law_are f fd → FnG P w K mg base 14 f fd ["calls", "told", "value"] (spF K f_law_are) := fun f fd F => def_okG (m := b_law_are) 3 4 F sc_law_are rfl rfl fun cdv A outer s H E hcv hG hr =>
  (ss_cons (s_for PassesOwn.never rfl (si_seq (se_var (pv 0))) (sg_name (pg_name (i := 3) sc_law_are.nd rfl (by first | exact .inl rfl | exact .inr rfl)))
  (ss_one (s_if (st_cmp (op_neD hr.units) c2_ne (SE.sp (se_cG c_law_heard hG hr (by decide) (by rfl) (sa_cons (se_var (pv 3)) sa_nil))) (SE.sp (SL.se (sl_lst (sa_cons (se_var (pv 1)) (sa_cons (se_var (pv 2)) (sa_cons se_bl sa_nil)))))) (nomark _))
  (ss_one (s_ret se_bl))
  ss_nil)))
  (ss_one (s_ret se_bl)))
theorem ok_law_two_calls (KB : K.In base) (GB : base.Ns mainGlobals mg) (tbs : ∀ x ∈ TBC, LamX.TabB base mg x.1 x.2.1) (t_law_two_calls : PySem.W.tabIn K "_law_two_calls" = some (TC_law_two_calls, TP_law_two_calls)) : ∀ f fd, Fun K "_law_two_calls" "_law_two_calls" s_law_two_calls f fd → mg "_law_two_calls" = some (.ref f) → FnG P w K mg base 1 f fd ["lot", "other"] (spL K f_law_two_calls) := fun f fd F hm => def_okK (m := b_law_two_calls) 2 3 F sc_law_two_calls rfl rfl fun cdv A outer s H E hcv hG hr =>
  (bk_start (scln_lst (sls_cons (lamAt_mk (x := ⟨"_law_two_calls.<locals>.<lambda>", ["other", "lot"], _, _, _⟩) (js := [1, 0]) (n := 0) (hcv.symm.trans (code_of KB GB t_law_two_calls F hm)) (by rfl) (tbs (TC_law_two_calls, TP_law_two_calls, "_law_two_calls.<locals>.<lambda>") (by decide +kernel)) (by rfl) (by decide +kernel) (by decide +kernel) (by rfl) (by rfl) (by decide) (by decide +kernel) (by rfl)) sls_nil)) (fun _ he => ps_set (i := 2) sc_law_two_calls.nd rfl (by first | exact .inl rfl | exact .inr rfl) he)
  (bk_more (pv 2) (lamAt_mk (x := ⟨"_law_two_calls.<locals>.<lambda>", ["other", "lot"], _, _, _⟩) (js := [1, 0]) (n := 1) (hcv.symm.trans (code_of KB GB t_law_two_calls F hm)) (by rfl) (tbs (TC_law_two_calls, TP_law_two_calls, "_law_two_calls.<locals>.<lambda>") (by decide +kernel)) (by rfl) (by decide +kernel) (by decide +kernel) (by rfl) (by rfl) (by decide) (by decide +kernel) (by rfl))
  (bk_more (pv 2) (lamAt_mk (x := ⟨"_law_two_calls.<locals>.<lambda>", ["other", "lot"], _, _, _⟩) (js := [1, 0]) (n := 2) (hcv.symm.trans (code_of KB GB t_law_two_calls F hm)) (by rfl) (tbs (TC_law_two_calls, TP_law_two_calls, "_law_two_calls.<locals>.<lambda>") (by decide +kernel)) (by rfl) (by decide +kernel) (by decide +kernel) (by rfl) (by rfl) (by decide) (by decide +kernel) (by rfl))
  (bk_more (pv 2) (lamAt_mk (x := ⟨"_law_two_calls.<locals>.<lambda>", ["other", "lot"], _, _, _⟩) (js := [1, 0]) (n := 3) (hcv.symm.trans (code_of KB GB t_law_two_calls F hm)) (by rfl) (tbs (TC_law_two_calls, TP_law_two_calls, "_law_two_calls.<locals>.<lambda>") (by decide +kernel)) (by rfl) (by decide +kernel) (by decide +kernel) (by rfl) (by rfl) (by decide) (by decide +kernel) (by rfl))
  (bk_ret (pv 2))))))
theorem ok_law_lots_calls (KB : K.In base) (GB : base.Ns mainGlobals mg) (tbs : ∀ x ∈ TBC, LamX.TabB base mg x.1 x.2.1) (t_law_lots_calls : PySem.W.tabIn K "_law_lots_calls" = some (TC_law_lots_calls, TP_law_lots_calls)) : ∀ f fd, Fun K "_law_lots_calls" "_law_lots_calls" s_law_lots_calls f fd → mg "_law_lots_calls" = some (.ref f) → FnG P w K mg base 1 f fd ["lots"] (spL K f_law_lots_calls) := fun f fd F hm => def_okK (m := b_law_lots_calls) 1 2 F sc_law_lots_calls rfl rfl fun cdv A outer s H E hcv hG hr =>
  (bk_start (scln_lst (sls_cons (lamAt_mk (x := ⟨"_law_lots_calls.<locals>.<lambda>", ["lots"], _, _, _⟩) (js := [0]) (n := 4) (hcv.symm.trans (code_of KB GB t_law_lots_calls F hm)) (by rfl) (tbs (TC_law_lots_calls, TP_law_lots_calls, "_law_lots_calls.<locals>.<lambda>") (by decide +kernel)) (by rfl) (by decide +kernel) (by decide +kernel) (by rfl) (by rfl) (by decide) (by decide +kernel) (by rfl)) sls_nil)) (fun _ he => ps_set (i := 1) sc_law_lots_calls.nd rfl (by first | exact .inl rfl | exact .inr rfl) he)
  (bk_more (pv 1) (lamAt_mk (x := ⟨"_law_lots_calls.<locals>.<lambda>", ["lots"], _, _, _⟩) (js := [0]) (n := 5) (hcv.symm.trans (code_of KB GB t_law_lots_calls F hm)) (by rfl) (tbs (TC_law_lots_calls, TP_law_lots_calls, "_law_lots_calls.<locals>.<lambda>") (by decide +kernel)) (by rfl) (by decide +kernel) (by decide +kernel) (by rfl) (by rfl) (by decide) (by decide +kernel) (by rfl))
  (bk_more (pv 1) (lamAt_mk (x := ⟨"_law_lots_calls.<locals>.<lambda>", ["lots"], _, _, _⟩) (js := [0]) (n := 6) (hcv.symm.trans (code_of KB GB t_law_lots_calls F hm)) (by rfl) (tbs (TC_law_lots_calls, TP_law_lots_calls, "_law_lots_calls.<locals>.<lambda>") (by decide +kernel)) (by rfl) (by decide +kernel) (by decide +kernel) (by rfl) (by rfl) (by decide) (by decide +kernel) (by rfl))
  (bk_more (pv 1) (lamAt_mk (x := ⟨"_law_lots_calls.<locals>.<lambda>", ["lots"], _, _, _⟩) (js := [0]) (n := 7) (hcv.symm.trans (code_of KB GB t_law_lots_calls F hm)) (by rfl) (tbs (TC_law_lots_calls, TP_law_lots_calls, "_law_lots_calls.<locals>.<lambda>") (by decide +kernel)) (by rfl) (by decide +kernel) (by decide +kernel) (by rfl) (by rfl) (by decide) (by decide +kernel) (by rfl))
  (bk_ret (pv 1))))))
theorem ok_law_lots_right (KB : K.In base) (GB : base.Ns mainGlobals mg) (tbs : ∀ x ∈ TBC, LamX.TabB base mg x.1 x.2.1) (t_law_lots_right : PySem.W.tabIn K "_law_lots_right" = some (TC_law_lots_right, TP_law_lots_right)) (cl_law_two_calls : CalL P w K mg base 1 "_law_two_calls" f_law_two_calls) (cl_law_lots_calls : CalL P w K mg base 1 "_law_lots_calls" f_law_lots_calls) (c_law_are : CalG P w K mg base 14 "_law_are" f_law_are) (nb : Nb mg) : ∀ f fd, Fun K "_law_lots_right" "_law_lots_right" s_law_lots_right f fd → mg "_law_lots_right" = some (.ref f) → FnG P w K mg base 15 f fd ["lot"] (spF K f_law_lots_right) := fun f fd F hm => def_okG (m := b_law_lots_right) 1 7 F sc_law_lots_right rfl rfl fun cdv A outer s H E hcv hG hr =>
  (ss_cons (s_asg (ps_set (i := 5) sc_law_lots_right.nd rfl (by first | exact .inl rfl | exact .inr rfl) (SE.pe (se_bi cr_len f1_len (by rfl) nb.b_len (by decide +kernel) (spa_cons (sp_var (pv 0)) spa_nil)))) (fun _ _ _ h => h))
  (ss_cons (s_asg (ps_set (i := 1) sc_law_lots_right.nd rfl (by first | exact .inl rfl | exact .inr rfl) (SE.pe (SL.se (sl_lst (sa_cons se_non (sa_cons se_int (sa_cons (se_tup sa_nil) (sa_cons (SL.se (sl_lst sa_nil)) (sa_cons (SL.se (sl_list (by rfl) nb.b_list (sp_var (pv 0)))) (sa_cons (se_op or_add o2_add (sp_var (pv 0)) (SE.sp (se_tup (sa_cons (se_tup (sa_cons se_int (sa_cons se_int sa_nil))) sa_nil)))) (sa_cons (se_tup (sa_cons (se_tup (sa_cons se_int (sa_cons se_int sa_nil))) (sa_cons (se_tup (sa_cons se_int (sa_cons se_int sa_nil))) sa_nil))) (sa_cons (se_tup (sa_cons (se_tup (sa_cons se_int (sa_cons se_int sa_nil))) sa_nil)) (sa_cons (se_tup (sa_cons (se_tup (sa_cons se_int (sa_cons se_int sa_nil))) (sa_cons se_int sa_nil))) (sa_cons (se_tup (sa_cons (se_tup (sa_cons se_int (sa_cons se_int sa_nil))) (sa_cons (se_tup (sa_cons (se_neg (SE.sp se_int)) (sa_cons se_int sa_nil))) sa_nil))) (sa_cons (se_op or_mul o2_mul (SE.sp (se_tup (sa_cons (se_tup (sa_cons se_int (sa_cons se_int sa_nil))) sa_nil))) (SE.sp se_int)) (sa_cons se_str (sa_cons (se_tup (sa_cons (se_tup (sa_cons se_bl (sa_cons se_int sa_nil))) sa_nil)) sa_nil))))))))))))))))) (fun _ _ _ h => h))
  (ss_cons (s_asg (ps_set (i := 2) sc_law_lots_right.nd rfl (by first | exact .inl rfl | exact .inr rfl) (SE.pe (se_op or_add o2_add (SE.sp (se_op op_pow o2_pow (SE.sp se_int) (SE.sp se_int))) (SE.sp se_int)))) (fun _ _ _ h => h))
  (ss_cons (s_asg (ps_set (i := 1) sc_law_lots_right.nd rfl (by first | exact .inl rfl | exact .inr rfl) (SE.pe (se_op or_add o2_add (sp_var (pv 1)) (SE.sp (SL.se (sl_lst (sa_cons (se_tup (sa_cons (se_tup (sa_cons se_int (sa_cons (se_var (pv 2)) sa_nil))) (sa_cons (se_tup (sa_cons (se_op op_sub o2_sub (sp_var (pv 2)) (SE.sp se_int)) (sa_cons (se_var (pv 2)) sa_nil))) sa_nil))) (sa_cons (se_tup (sa_cons (se_tup (sa_cons se_int (sa_cons se_int sa_nil))) (sa_cons (se_tup (sa_cons se_int (sa_cons se_int sa_nil))) (sa_cons (se_tup (sa_cons se_int (sa_cons se_int sa_nil))) sa_nil)))) (sa_cons se_dct (sa_cons (se_tup (sa_cons (se_tup (sa_cons se_int (sa_cons se_int sa_nil))) (sa_cons (se_tup (sa_cons se_int (sa_cons se_int sa_nil))) (sa_cons se_non sa_nil)))) sa_nil)))))))))) (fun _ _ _ h => h))
  (ss_cons (s_for PassesOwn.never rfl (si_seq (se_var (pv 1))) (sg_name (pg_name (i := 6) sc_law_lots_right.nd rfl (by first | exact .inl rfl | exact .inr rfl)))
  (b_start (SClN.scl (scln_add (scln_sl (sl_callL cl_law_two_calls hG hr (by decide) (by rfl) (sa_cons (se_var (pv 6)) (sa_cons se_non sa_nil)))) (scln_sl (sl_callL cl_law_two_calls hG hr (by decide) (by rfl) (sa_cons (se_var (pv 0)) (sa_cons (se_var (pv 6)) sa_nil)))))) (fun _ he => ps_set (i := 3) sc_law_lots_right.nd rfl (by first | exact .inl rfl | exact .inr rfl) he)
  (b_more (pv 3) (lamAt_mk (x := ⟨"_law_lots_right.<locals>.<lambda>", ["odd"], _, _, _⟩) (js := [6]) (n := 8) (hcv.symm.trans (code_of KB GB t_law_lots_right F hm)) (by rfl) (tbs (TC_law_lots_right, TP_law_lots_right, "_law_lots_right.<locals>.<lambda>") (by decide +kernel)) (by rfl) (by decide +kernel) (by decide +kernel) (by rfl) (by rfl) (by decide) (by decide +kernel) (by rfl))
  (b_more (pv 3) (lamAt_mk (x := ⟨"_law_lots_right.<locals>.<lambda>", ["odd", "lot"], _, _, _⟩) (js := [6, 0]) (n := 9) (hcv.symm.trans (code_of KB GB t_law_lots_right F hm)) (by rfl) (tbs (TC_law_lots_right, TP_law_lots_right, "_law_lots_right.<locals>.<lambda>") (by decide +kernel)) (by rfl) (by decide +kernel) (by decide +kernel) (by rfl) (by rfl) (by decide) (by decide +kernel) (by rfl))
  (b_if (pe_capB c_law_are hG hr (by decide) (fun _ => rfl) (by rfl) (pv 3) (sa_cons se_str (sa_cons (se_bi (cr_repr2 hG hr.units) f1_repr2 (by rfl) nb.b_repr (by decide +kernel) (spa_cons (sp_var (pv 6)) spa_nil)) sa_nil)))
  (ss_cons (s_asg (ps_set (i := 4) sc_law_lots_right.nd rfl (by first | exact .inl rfl | exact .inr rfl) (SE.pe (SL.se (sl_lst (sa_cons (se_var (pv 0)) (sa_cons (se_var (pv 6)) sa_nil)))))) (fun _ _ _ h => h))
  (b_start (SClN.scl (scln_sl (sl_callL cl_law_lots_calls hG hr (by decide) (by rfl) (sa_cons (se_var (pv 4)) sa_nil)))) (fun _ he => ps_set (i := 3) sc_law_lots_right.nd rfl (by first | exact .inl rfl | exact .inr rfl) he)
  (b_more (pv 3) (lamAt_mk (x := ⟨"_law_lots_right.<locals>.<lambda>", ["bad"], _, _, _⟩) (js := [4]) (n := 10) (hcv.symm.trans (code_of KB GB t_law_lots_right F hm)) (by rfl) (tbs (TC_law_lots_right, TP_law_lots_right, "_law_lots_right.<locals>.<lambda>") (by decide +kernel)) (by rfl) (by decide +kernel) (by decide +kernel) (by rfl) (by rfl) (by decide) (by decide +kernel) (by rfl))
  (b_more (pv 3) (lamAt_mk (x := ⟨"_law_lots_right.<locals>.<lambda>", ["bad"], _, _, _⟩) (js := [4]) (n := 11) (hcv.symm.trans (code_of KB GB t_law_lots_right F hm)) (by rfl) (tbs (TC_law_lots_right, TP_law_lots_right, "_law_lots_right.<locals>.<lambda>") (by decide +kernel)) (by rfl) (by decide +kernel) (by decide +kernel) (by rfl) (by rfl) (by decide) (by decide +kernel) (by rfl))
  (b_if (pe_capB c_law_are hG hr (by decide) (fun _ => rfl) (by rfl) (pv 3) (sa_cons se_str (sa_cons (se_bi (cr_repr2 hG hr.units) f1_repr2 (by rfl) nb.b_repr (by decide +kernel) (spa_cons (sp_var (pv 4)) spa_nil)) sa_nil)))
  ss_nil (ps_ret pe_bl)))))) (ps_ret pe_bl))))))
  (ss_cons (s_for PassesOwn.never rfl (si_seq (SL.se (sl_lst (sa_cons se_non (sa_cons se_int (sa_cons (se_tup sa_nil) (sa_cons (SL.se (sl_lst sa_nil)) (sa_cons se_dct (sa_cons se_str (sa_cons (se_var (pv 0)) (sa_cons (se_op or_mul o2_mul (SE.sp (SL.se (sl_lst (sa_cons (se_var (pv 0)) sa_nil)))) (SE.sp se_int)) (sa_cons (SL.se (sl_lst (sa_cons (se_var (pv 0)) (sa_cons (se_op or_add o2_add (sp_var (pv 0)) (SE.sp (se_tup (sa_cons (se_tup (sa_cons se_int (sa_cons se_int sa_nil))) sa_nil)))) sa_nil)))) (sa_cons (SL.se (sl_lst (sa_cons se_non sa_nil))) sa_nil))))))))))))) (sg_name (pg_name (i := 6) sc_law_lots_right.nd rfl (by first | exact .inl rfl | exact .inr rfl)))
  (b_start (SClN.scl (scln_sl (sl_callL cl_law_lots_calls hG hr (by decide) (by rfl) (sa_cons (se_var (pv 6)) sa_nil)))) (fun _ he => ps_set (i := 3) sc_law_lots_right.nd rfl (by first | exact .inl rfl | exact .inr rfl) he)
  (b_more (pv 3) (lamAt_mk (x := ⟨"_law_lots_right.<locals>.<lambda>", ["odd"], _, _, _⟩) (js := [6]) (n := 12) (hcv.symm.trans (code_of KB GB t_law_lots_right F hm)) (by rfl) (tbs (TC_law_lots_right, TP_law_lots_right, "_law_lots_right.<locals>.<lambda>") (by decide +kernel)) (by rfl) (by decide +kernel) (by decide +kernel) (by rfl) (by rfl) (by decide) (by decide +kernel) (by rfl))
  (b_more (pv 3) (lamAt_mk (x := ⟨"_law_lots_right.<locals>.<lambda>", ["odd"], _, _, _⟩) (js := [6]) (n := 13) (hcv.symm.trans (code_of KB GB t_law_lots_right F hm)) (by rfl) (tbs (TC_law_lots_right, TP_law_lots_right, "_law_lots_right.<locals>.<lambda>") (by decide +kernel)) (by rfl) (by decide +kernel) (by decide +kernel) (by rfl) (by rfl) (by decide) (by decide +kernel) (by rfl))
  (b_if (pe_capB c_law_are hG hr (by decide) (fun _ => rfl) (by rfl) (pv 3) (sa_cons se_str (sa_cons (se_bi (cr_repr2 hG hr.units) f1_repr2 (by rfl) nb.b_repr (by decide +kernel) (spa_cons (sp_var (pv 6)) spa_nil)) sa_nil)))
  ss_nil (ps_ret pe_bl))))))
  (ss_one (s_ret (se_cap c_law_are hG hr (by decide) (fun _ => rfl) (by rfl) (scl_lst (sls_cons (lamAt_mk (x := ⟨"_law_lots_right.<locals>.<lambda>", ["many", "lot"], _, _, _⟩) (js := [5, 0]) (n := 14) (hcv.symm.trans (code_of KB GB t_law_lots_right F hm)) (by rfl) (tbs (TC_law_lots_right, TP_law_lots_right, "_law_lots_right.<locals>.<lambda>") (by decide +kernel)) (by rfl) (by decide +kernel) (by decide +kernel) (by rfl) (by rfl) (by decide) (by decide +kernel) (by rfl)) sls_nil)) (sa_cons se_str (sa_cons (se_bi (cr_repr2 hG hr.units) f1_repr2 (by rfl) nb.b_repr (by decide +kernel) (spa_cons (SE.sp (SL.se (sl_lst (sa_cons (se_var (pv 5)) sa_nil)))) spa_nil)) sa_nil)))))))))))
theorem ok_law_rest_right (KB : K.In base) (GB : base.Ns mainGlobals mg) (tbs : ∀ x ∈ TBC, LamX.TabB base mg x.1 x.2.1) (t_law_rest_right : PySem.W.tabIn K "_law_rest_right" = some (TC_law_rest_right, TP_law_rest_right)) (cl_law_two_calls : CalL P w K mg base 1 "_law_two_calls" f_law_two_calls) (c_law_are : CalG P w K mg base 14 "_law_are" f_law_are) (nb : Nb mg) : ∀ f fd, Fun K "_law_rest_right" "_law_rest_right" s_law_rest_right f fd → mg "_law_rest_right" = some (.ref f) → FnG P w K mg base 15 f fd ["lot"] (spF K f_law_rest_right) := fun f fd F hm => def_okG (m := b_law_rest_right) 1 5 F sc_law_rest_right rfl rfl fun cdv A outer s H E hcv hG hr =>
  (ss_cons (s_asg (ps_set (i := 1) sc_law_rest_right.nd rfl (by first | exact .inl rfl | exact .inr rfl) (SE.pe (se_bi cr_len f1_len (by rfl) nb.b_len (by decide +kernel) (spa_cons (sp_var (pv 0)) spa_nil)))) (fun _ _ _ h => h))
  (ss_cons (s_asg (ps_set (i := 4) sc_law_rest_right.nd rfl (by first | exact .inl rfl | exact .inr rfl) (SE.pe (se_op or_add o2_add (sp_var (pv 0)) (SE.sp (se_tup (sa_cons (se_tup (sa_cons se_int (sa_cons se_int sa_nil))) sa_nil)))))) (fun _ _ _ h => h))
  (ss_cons (s_if (st_not (st_val (SE.sp (se_cap c_law_are hG hr (by decide) (fun _ => rfl) (by rfl) (SClN.scl (scln_add (scln_add (scln_sl (sl_callL cl_law_two_calls hG hr (by decide) (by rfl) (sa_cons (se_var (pv 0)) (sa_cons (se_var (pv 4)) sa_nil)))) (scln_sl (sl_callL cl_law_two_calls hG hr (by decide) (by rfl) (sa_cons (se_var (pv 4)) (sa_cons (se_var (pv 0)) sa_nil))))) (scln_lst (sls_cons (lamAt_mk (x := ⟨"_law_rest_right.<locals>.<lambda>", ["other", "lot"], _, _, _⟩) (js := [4, 0]) (n := 15) (hcv.symm.trans (code_of KB GB t_law_rest_right F hm)) (by rfl) (tbs (TC_law_rest_right, TP_law_rest_right, "_law_rest_right.<locals>.<lambda>") (by decide +kernel)) (by rfl) (by decide +kernel) (by decide +kernel) (by rfl) (by rfl) (by decide) (by decide +kernel) (by rfl)) sls_nil)))) (sa_cons se_str (sa_cons se_str sa_nil))))))
  (ss_one (s_ret se_bl))
  ss_nil)
  (ss_cons (s_for PassesOwn.never rfl (si_seq (SL.se (sl_lst (sa_cons se_non (sa_cons se_int (sa_cons se_dct (sa_cons se_str (sa_cons (SL.se (sl_lst (sa_cons se_int (sa_cons se_int sa_nil)))) (sa_cons (SL.se (sl_lst (sa_cons (se_var (pv 1)) sa_nil))) (sa_cons (SL.se (sl_lst (sa_cons (se_neg (SE.sp se_int)) sa_nil))) (sa_cons (SL.se (sl_lst (sa_cons se_bl sa_nil))) (sa_cons (SL.se (sl_lst (sa_cons se_str sa_nil))) (sa_cons (SL.se (sl_lst (sa_cons se_non sa_nil))) (sa_cons (SL.se (sl_lst (sa_cons (SL.se (sl_lst (sa_cons se_int sa_nil))) sa_nil))) (sa_cons (se_tup (sa_cons se_int (sa_cons (se_var (pv 1)) sa_nil))) sa_nil))))))))))))))) (sg_name (pg_name (i := 3) sc_law_rest_right.nd rfl (by first | exact .inl rfl | exact .inr rfl)))
  (b_start (scl_lst (sls_cons (lamAt_mk (x := ⟨"_law_rest_right.<locals>.<lambda>", ["odd", "lot"], _, _, _⟩) (js := [3, 0]) (n := 16) (hcv.symm.trans (code_of KB GB t_law_rest_right F hm)) (by rfl) (tbs (TC_law_rest_right, TP_law_rest_right, "_law_rest_right.<locals>.<lambda>") (by decide +kernel)) (by rfl) (by decide +kernel) (by decide +kernel) (by rfl) (by rfl) (by decide) (by decide +kernel) (by rfl)) sls_nil)) (fun _ he => ps_set (i := 2) sc_law_rest_right.nd rfl (by first | exact .inl rfl | exact .inr rfl) he)
  (b_more (pv 2) (lamAt_mk (x := ⟨"_law_rest_right.<locals>.<lambda>", ["other", "odd", "lot"], _, _, _⟩) (js := [4, 3, 0]) (n := 17) (hcv.symm.trans (code_of KB GB t_law_rest_right F hm)) (by rfl) (tbs (TC_law_rest_right, TP_law_rest_right, "_law_rest_right.<locals>.<lambda>") (by decide +kernel)) (by rfl) (by decide +kernel) (by decide +kernel) (by rfl) (by rfl) (by decide) (by decide +kernel) (by rfl))
  (b_if (pe_capB c_law_are hG hr (by decide) (fun _ => rfl) (by rfl) (pv 2) (sa_cons se_str (sa_cons (se_bi (cr_repr2 hG hr.units) f1_repr2 (by rfl) nb.b_repr (by decide +kernel) (spa_cons (sp_var (pv 3)) spa_nil)) sa_nil)))
  ss_nil (ps_ret pe_bl)))))
  (ss_cons (s_for PassesOwn.never rfl (si_seq (SL.se (sl_lst (sa_cons se_non (sa_cons se_int (sa_cons (se_tup (sa_cons se_int (sa_cons se_int sa_nil))) (sa_cons (se_tup (sa_cons se_int (sa_cons se_int sa_nil))) (sa_cons (se_tup (sa_cons se_int (sa_cons se_int sa_nil))) (sa_cons (se_tup (sa_cons se_int (sa_cons (se_neg (SE.sp se_int)) sa_nil))) (sa_cons (SL.se (sl_lst (sa_cons se_int (sa_cons se_int sa_nil)))) (sa_cons se_str (sa_cons (se_tup (sa_cons se_bl (sa_cons se_int sa_nil))) (sa_cons (se_tup (sa_cons (se_op op_pow o2_pow (SE.sp se_int) (SE.sp se_int)) (sa_cons se_int sa_nil))) (sa_cons (se_tup (sa_cons se_int (sa_cons (se_op op_pow o2_pow (SE.sp se_int) (SE.sp se_int)) sa_nil))) (sa_cons (se_tup (sa_cons se_int (sa_cons se_int (sa_cons se_int sa_nil)))) sa_nil))))))))))))))) (sg_name (pg_name (i := 3) sc_law_rest_right.nd rfl (by first | exact .inl rfl | exact .inr rfl)))
  (b_start (scl_lst (sls_cons (lamAt_mk (x := ⟨"_law_rest_right.<locals>.<lambda>", ["odd", "lot"], _, _, _⟩) (js := [3, 0]) (n := 18) (hcv.symm.trans (code_of KB GB t_law_rest_right F hm)) (by rfl) (tbs (TC_law_rest_right, TP_law_rest_right, "_law_rest_right.<locals>.<lambda>") (by decide +kernel)) (by rfl) (by decide +kernel) (by decide +kernel) (by rfl) (by rfl) (by decide) (by decide +kernel) (by rfl)) sls_nil)) (fun _ he => ps_set (i := 2) sc_law_rest_right.nd rfl (by first | exact .inl rfl | exact .inr rfl) he)
  (b_more (pv 2) (lamAt_mk (x := ⟨"_law_rest_right.<locals>.<lambda>", ["odd", "lot"], _, _, _⟩) (js := [3, 0]) (n := 19) (hcv.symm.trans (code_of KB GB t_law_rest_right F hm)) (by rfl) (tbs (TC_law_rest_right, TP_law_rest_right, "_law_rest_right.<locals>.<lambda>") (by decide +kernel)) (by rfl) (by decide +kernel) (by decide +kernel) (by rfl) (by rfl) (by decide) (by decide +kernel) (by rfl))
  (b_if (pe_capB c_law_are hG hr (by decide) (fun _ => rfl) (by rfl) (pv 2) (sa_cons se_str (sa_cons (se_bi (cr_repr2 hG hr.units) f1_repr2 (by rfl) nb.b_repr (by decide +kernel) (spa_cons (sp_var (pv 3)) spa_nil)) sa_nil)))
  ss_nil (ps_ret pe_bl)))))
  (ss_cons (s_for PassesOwn.never rfl (si_seq (SL.se (sl_lst (sa_cons se_non (sa_cons se_int (sa_cons (SL.se (sl_lst sa_nil)) (sa_cons (se_tup sa_nil) (sa_cons se_dct (sa_cons (SL.se (sl_lst (sa_cons se_non sa_nil))) (sa_cons (SL.se (sl_lst (sa_cons (se_tup (sa_cons (se_tup (sa_cons se_int sa_nil)) (sa_cons (se_tup (sa_cons se_int (sa_cons se_int sa_nil))) sa_nil))) sa_nil))) (sa_cons (SL.se (sl_lst (sa_cons (se_tup (sa_cons (se_tup (sa_cons se_int sa_nil)) (sa_cons (se_tup (sa_cons se_int (sa_cons se_int sa_nil))) sa_nil))) (sa_cons (se_tup (sa_cons (se_tup (sa_cons se_int sa_nil)) (sa_cons (se_tup (sa_cons se_int (sa_cons se_int sa_nil))) sa_nil))) sa_nil)))) (sa_cons (SL.se (sl_lst (sa_cons (se_tup (sa_cons (se_tup (sa_cons (se_var (pv 1)) sa_nil)) (sa_cons (se_tup (sa_cons se_int (sa_cons se_int sa_nil))) sa_nil))) sa_nil))) (sa_cons (SL.se (sl_lst (sa_cons (se_tup (sa_cons (SL.se (sl_lst (sa_cons se_int sa_nil))) (sa_cons (se_tup (sa_cons se_int (sa_cons se_int sa_nil))) sa_nil))) sa_nil))) (sa_cons se_str sa_nil)))))))))))))) (sg_name (pg_name (i := 3) sc_law_rest_right.nd rfl (by first | exact .inl rfl | exact .inr rfl)))
  (b_start (scl_lst (sls_cons (lamAt_mk (x := ⟨"_law_rest_right.<locals>.<lambda>", ["odd", "lot"], _, _, _⟩) (js := [3, 0]) (n := 20) (hcv.symm.trans (code_of KB GB t_law_rest_right F hm)) (by rfl) (tbs (TC_law_rest_right, TP_law_rest_right, "_law_rest_right.<locals>.<lambda>") (by decide +kernel)) (by rfl) (by decide +kernel) (by decide +kernel) (by rfl) (by rfl) (by decide) (by decide +kernel) (by rfl)) sls_nil)) (fun _ he => ps_set (i := 2) sc_law_rest_right.nd rfl (by first | exact .inl rfl | exact .inr rfl) he)
  (b_more (pv 2) (lamAt_mk (x := ⟨"_law_rest_right.<locals>.<lambda>", ["odd", "lot"], _, _, _⟩) (js := [3, 0]) (n := 21) (hcv.symm.trans (code_of KB GB t_law_rest_right F hm)) (by rfl) (tbs (TC_law_rest_right, TP_law_rest_right, "_law_rest_right.<locals>.<lambda>") (by decide +kernel)) (by rfl) (by decide +kernel) (by decide +kernel) (by rfl) (by rfl) (by decide) (by decide +kernel) (by rfl))
  (b_if (pe_capB c_law_are hG hr (by decide) (fun _ => rfl) (by rfl) (pv 2) (sa_cons se_str (sa_cons (se_bi (cr_repr2 hG hr.units) f1_repr2 (by rfl) nb.b_repr (by decide +kernel) (spa_cons (sp_var (pv 3)) spa_nil)) sa_nil)))
  ss_nil (ps_ret pe_bl)))))
  (ss_one (s_ret se_bl))))))))
theorem ok_law_let_right (cl : Cls P w K mg base) (KB : K.In base) (GB : base.Ns mainGlobals mg) (tbs : ∀ x ∈ TBC, LamX.TabB base mg x.1 x.2.1) (t_law_let_right : PySem.W.tabIn K "_law_let_right" = some (TC_law_let_right, TP_law_let_right)) (cl_law_two_calls : CalL P w K mg base 1 "_law_two_calls" f_law_two_calls) (cl_law_lots_calls : CalL P w K mg base 1 "_law_lots_calls" f_law_lots_calls) (c_law_are : CalG P w K mg base 14 "_law_are" f_law_are) (c_law_pick : CalG P w K mg base 2 "_law_pick" f_law_pick) (c_is_split : CalG P w K mg base 8 "is_split" f_is_split) (c_is_joint : CalG P w K mg base 8 "is_joint" f_is_joint) (c_is_nearest : CalG P w K mg base 10 "is_nearest" f_is_nearest) (nb : Nb mg) : ∀ f fd, Fun K "_law_let_right" "_law_let_right" s_law_let_right f fd → mg "_law_let_right" = some (.ref f) → FnG P w K mg base 15 f fd ["pot", "lot"] (spF K f_law_let_right) := fun f fd F hm => def_okG (m := b_law_let_right) 2 9 F sc_law_let_right rfl rfl fun cdv A outer s H E hcv hG hr =>
  (ss_cons (s_asg (ps_set (i := 5) sc_law_let_right.nd rfl (by first | exact .inl rfl | exact .inr rfl) (SE.pe (se_op op_sub o2_sub (SE.sp (se_op op_pow o2_pow (SE.sp se_int) (SE.sp se_int))) (SE.sp se_int)))) (fun _ _ _ h => h))
  (ss_cons (s_asgG (ps_asg (SE.pe (se_tup (sa_cons (se_op or_mul o2_mul (SE.sp (se_tup (sa_cons (se_tup (sa_cons se_int (sa_cons se_int sa_nil))) sa_nil))) (SE.sp se_int)) (sa_cons (se_tup (sa_cons (se_tup (sa_cons se_int (sa_cons (se_var (pv 5)) sa_nil))) (sa_cons (se_tup (sa_cons (se_op op_sub o2_sub (sp_var (pv 5)) (SE.sp se_int)) (sa_cons (se_var (pv 5)) sa_nil))) sa_nil))) sa_nil)))) (SG.pg (sg_tup rfl (sgs_cons (sg_name (pg_name (i := 7) sc_law_let_right.nd rfl (by first | exact .inl rfl | exact .inr rfl))) (sgs_cons (sg_name (pg_name (i := 6) sc_law_let_right.nd rfl (by first | exact .inl rfl | exact .inr rfl))) sgs_nil))))) (fun _ _ _ h => h) (fun _ _ _ _ h => h))
  (b_start (SClN.scl (scln_add (scln_add (scln_add (scln_sl (sl_callL cl_law_two_calls hG hr (by decide) (by rfl) (sa_cons (se_var (pv 7)) (sa_cons (se_var (pv 7)) sa_nil)))) (scln_sl (sl_callL cl_law_two_calls hG hr (by decide) (by rfl) (sa_cons (se_var (pv 6)) (sa_cons (se_var (pv 6)) sa_nil))))) (scln_sl (sl_callL cl_law_lots_calls hG hr (by decide) (by rfl) (sa_cons (se_op or_mul o2_mul (SE.sp (SL.se (sl_lst (sa_cons (se_var (pv 7)) sa_nil)))) (SE.sp se_int)) sa_nil)))) (scln_sl (sl_callL cl_law_lots_calls hG hr (by decide) (by rfl) (sa_cons (se_tup (sa_cons (se_var (pv 1)) sa_nil)) sa_nil))))) (fun _ he => ps_set (i := 2) sc_law_let_right.nd rfl (by first | exact .inl rfl | exact .inr rfl) he)
  (b_more (pv 2) (lamAt_mk (x := ⟨"_law_let_right.<locals>.<lambda>", ["lot"], _, _, _⟩) (js := [1]) (n := 22) (hcv.symm.trans (code_of KB GB t_law_let_right F hm)) (by rfl) (tbs (TC_law_let_right, TP_law_let_right, "_law_let_right.<locals>.<lambda>") (by decide +kernel)) (by rfl) (by decide +kernel) (by decide +kernel) (by rfl) (by rfl) (by decide) (by decide +kernel) (by rfl))
  (b_more (pv 2) (lamAt_mk (x := ⟨"_law_let_right.<locals>.<lambda>", ["wide"], _, _, _⟩) (js := [7]) (n := 23) (hcv.symm.trans (code_of KB GB t_law_let_right F hm)) (by rfl) (tbs (TC_law_let_right, TP_law_let_right, "_law_let_right.<locals>.<lambda>") (by decide +kernel)) (by rfl) (by decide +kernel) (by decide +kernel) (by rfl) (by rfl) (by decide) (by decide +kernel) (by rfl))
  (b_more (pv 2) (lamAt_mk (x := ⟨"_law_let_right.<locals>.<lambda>", ["lot", "fine"], _, _, _⟩) (js := [1, 5]) (n := 24) (hcv.symm.trans (code_of KB GB t_law_let_right F hm)) (by rfl) (tbs (TC_law_let_right, TP_law_let_right, "_law_let_right.<locals>.<lambda>") (by decide +kernel)) (by rfl) (by decide +kernel) (by decide +kernel) (by rfl) (by rfl) (by decide) (by decide +kernel) (by rfl))
  (b_more (pv 2) (lamAt_mk (x := ⟨"_law_let_right.<locals>.<lambda>", ["thin", "fine"], _, _, _⟩) (js := [6, 5]) (n := 25) (hcv.symm.trans (code_of KB GB t_law_let_right F hm)) (by rfl) (tbs (TC_law_let_right, TP_law_let_right, "_law_let_right.<locals>.<lambda>") (by decide +kernel)) (by rfl) (by decide +kernel) (by decide +kernel) (by rfl) (by rfl) (by decide) (by decide +kernel) (by rfl))
  (b_more (pv 2) (lamAt_mk (x := ⟨"_law_let_right.<locals>.<lambda>", ["wide"], _, _, _⟩) (js := [7]) (n := 26) (hcv.symm.trans (code_of KB GB t_law_let_right F hm)) (by rfl) (tbs (TC_law_let_right, TP_law_let_right, "_law_let_right.<locals>.<lambda>") (by decide +kernel)) (by rfl) (by decide +kernel) (by decide +kernel) (by rfl) (by rfl) (by decide) (by decide +kernel) (by rfl))
  (b_if (pe_capB c_law_are hG hr (by decide) (fun _ => rfl) (by rfl) (pv 2) (sa_cons se_str (sa_cons se_str sa_nil)))
  (ss_cons (s_asg (ps_set (i := 3) sc_law_let_right.nd rfl (by first | exact .inl rfl | exact .inr rfl) (SE.pe (se_cG c_law_pick hG hr (by decide) (by rfl) (sa_cons (se_var (pv 0)) (sa_cons (SL.se (sl_lst (sa_cons se_non (sa_cons se_int (sa_cons se_bl (sa_cons se_str (sa_cons (SL.se (sl_lst (sa_cons se_int sa_nil))) (sa_cons (se_tup (sa_cons se_int sa_nil)) (sa_cons se_dct sa_nil))))))))) sa_nil))))) (fun _ _ _ h => h))
  (ss_cons (s_asg (ps_set (i := 4) sc_law_let_right.nd rfl (by first | exact .inl rfl | exact .inr rfl) (SE.pe (SL.se (sl_lst (sa_cons (se_inst cl.v_InvalidJoint (hr.mono (by decide)) (by rfl) (sa_cons (se_var (pv 3)) sa_nil)) (sa_cons (se_instK cl.v_InvalidJoint (hr.mono (by decide)) (by rfl) (sk_cons (se_var (pv 3)) sk_nil)) (sa_cons (se_inst cl.v_InvalidLots (hr.mono (by decide)) (by rfl) (sa_cons (se_var (pv 3)) sa_nil)) (sa_cons (se_instK cl.v_InvalidLots (hr.mono (by decide)) (by rfl) (sk_cons (se_var (pv 3)) sk_nil)) (sa_cons (se_inst cl.v_InvalidPlaces (hr.mono (by decide)) (by rfl) (sa_cons (se_var (pv 3)) sa_nil)) sa_nil))))))))) (fun _ _ _ h => h))
  (ss_cons (s_if (SW.st (sw_or (st_cmp (op_neD hr.units) c2_ne (SE.sp (se_bi (cr_repr2 hG hr.units) f1_repr2 (by rfl) nb.b_repr (by decide +kernel) (spa_cons (SE.sp (SL.se (sl_lc (own := [("one", 8)]) rfl sc_law_let_right.nd (sip_seq (sp_var (pv 4))) (blkOk_by (N := N_law_let_right) (sc := (defScope s_law_let_right)) (by decide +kernel)) (fun _ _ _ _ _ => (sg_name (pg_name (i := 8) sc_law_let_right.nd rfl (by first | exact .inl rfl | exact .inr rfl)))) (fun _ _ _ _ _ => sts_nil) (fun _ _ _ _ _ => (se_val cl.val (se_var (pv 8)))) (by decide)))) spa_nil))) (SE.sp (se_bi (cr_repr2 hG hr.units) f1_repr2 (by rfl) nb.b_repr (by decide +kernel) (spa_cons (SE.sp (se_op or_mul o2_mul (SE.sp (SL.se (sl_lst (sa_cons (se_var (pv 3)) sa_nil)))) (SE.sp se_int))) spa_nil))) (nomark _)) (sw_or1 (st_not (st_val (SE.sp (se_bi (cr_all rfl) f1_all (by rfl) nb.b_all (by decide +kernel) (spa_cons (SE.sp (SL.se (sl_lc (own := [("one", 8)]) rfl sc_law_let_right.nd (sip_seq (sp_var (pv 4))) (blkOk_by (N := N_law_let_right) (sc := (defScope s_law_let_right)) (by decide +kernel)) (fun _ _ _ _ _ => (sg_name (pg_name (i := 8) sc_law_let_right.nd rfl (by first | exact .inl rfl | exact .inr rfl)))) (fun _ _ _ _ _ => sts_nil) (fun _ _ _ _ _ => (se_isI (cs := CLSA) (tb := IT_ChanceError) (c := .ref CA_ChanceError) cl.IK_ChanceError (by rfl) nb.b_isinstance (fun _ h => h) (se_var (pv 8)) (pe_cls (by rfl) cl.c_ChanceError))) (by decide)))) spa_nil))))))))
  (ss_one (s_ret se_bl))
  ss_nil)
  (ss_cons (s_if (st_val (SE.sp (se_bi (cr_any rfl) f1_any (by rfl) nb.b_any (by decide +kernel) (spa_cons (SE.sp (SL.se (sl_lc (own := [("one", 8)]) rfl sc_law_let_right.nd (sip_seq (sp_var (pv 4))) (blkOk_by (N := N_law_let_right) (sc := (defScope s_law_let_right)) (by decide +kernel)) (fun _ _ _ _ _ => (sg_name (pg_name (i := 8) sc_law_let_right.nd rfl (by first | exact .inl rfl | exact .inr rfl)))) (fun _ _ _ _ _ => sts_nil) (fun _ _ _ _ _ => (se_isIT (cs := CLSA) (tb := ITT_0) (vs := ITV_0.map V.ref) (cvs := ITV_0.map Value.ref) cl.IKT_0 (by rfl) nb.b_isinstance (fun _ h => vals_refs h) (se_var (pv 8)) (pa_cs_cons (pe_cls (by rfl) cl.c_StateError) (pa_cs_cons (pe_cls (by rfl) cl.c_MissingError) (pa_cs_cons (pe_cls (by rfl) cl.c_LimitError) pa_cs_nil))) (by decide))) (by decide)))) spa_nil))))
  (ss_one (s_ret se_bl))
  ss_nil)
  (ss_one (s_ret (se_cmp (op_eqD hr.units) c2_eq (SE.sp (se_bi (cr_repr2 hG hr.units) f1_repr2 (by rfl) nb.b_repr (by decide +kernel) (spa_cons (SE.sp (SL.se (sl_lst (sa_cons (se_cG c_is_nearest hG hr (by decide) (by rfl) (sa_cons (se_var (pv 1)) (sa_cons (se_var (pv 1)) (sa_cons se_non sa_nil)))) (sa_cons (se_cG c_is_joint hG hr (by decide) (by rfl) (sa_cons (SL.se (sl_lst (sa_cons (se_var (pv 1)) sa_nil))) (sa_cons se_non sa_nil))) (sa_cons (se_cG c_is_split hG hr (by decide) (by rfl) (sa_cons (SL.se (sl_lst (sa_cons (se_var (pv 1)) sa_nil))) (sa_cons (se_tup (sa_cons se_int (sa_cons se_int sa_nil))) (sa_cons se_non sa_nil)))) sa_nil)))))) spa_nil))) (SE.sp (se_bi (cr_repr2 hG hr.units) f1_repr2 (by rfl) nb.b_repr (by decide +kernel) (spa_cons (SE.sp (se_op or_mul o2_mul (SE.sp (SL.se (sl_lst (sa_cons se_bl sa_nil)))) (SE.sp se_int))) spa_nil))) (nomark _)))))))) (ps_ret pe_bl))))))))))
theorem ok_law_right (c_law_pick : CalG P w K mg base 2 "_law_pick" f_law_pick) (c_law_lots_right : CalG P w K mg base 15 "_law_lots_right" f_law_lots_right) (c_law_rest_right : CalG P w K mg base 15 "_law_rest_right" f_law_rest_right) (c_law_let_right : CalG P w K mg base 15 "_law_let_right" f_law_let_right) : ∀ f fd, Fun K "_law_right" "_law_right" s_law_right f fd → FnG P w K mg base 16 f fd ["pot"] (spF K f_law_right) := fun f fd F => def_okG (m := b_law_right) 1 2 F sc_law_right rfl rfl fun cdv A outer s H E hcv hG hr =>
  (ss_cons (s_asg (ps_set (i := 1) sc_law_right.nd rfl (by first | exact .inl rfl | exact .inr rfl) (SE.pe (se_cG c_law_pick hG hr (by decide) (by rfl) (sa_cons (se_var (pv 0)) (sa_cons (SL.se (sl_lst (sa_cons (se_tup (sa_cons (se_tup (sa_cons se_int (sa_cons se_int sa_nil))) sa_nil)) (sa_cons (se_tup (sa_cons (se_tup (sa_cons se_int (sa_cons se_int sa_nil))) (sa_cons (se_tup (sa_cons se_int (sa_cons se_int sa_nil))) sa_nil))) (sa_cons (se_tup (sa_cons (se_tup (sa_cons se_int (sa_cons se_int sa_nil))) (sa_cons (se_tup (sa_cons se_int (sa_cons se_int sa_nil))) (sa_cons (se_tup (sa_cons se_int (sa_cons se_int sa_nil))) sa_nil)))) sa_nil))))) sa_nil))))) (fun _ _ _ h => h))
  (ss_one (s_ret (se_and (se_cG c_law_lots_right hG hr (by decide) (by rfl) (sa_cons (se_var (pv 1)) sa_nil)) (se_and (se_cG c_law_rest_right hG hr (by decide) (by rfl) (sa_cons (se_var (pv 1)) sa_nil)) (se_one (se_cG c_law_let_right hG hr (by decide) (by rfl) (sa_cons (se_var (pv 0)) (sa_cons (se_var (pv 1)) sa_nil)))))))))
theorem ok_law_pot (nb : Nb mg) : ∀ f fd, Fun K "_law_pot" "_law_pot" s_law_pot f fd → FnG P w K mg base 1 f fd ["script", "k"] (spF K f_law_pot) := fun f fd F => def_okG (m := b_law_pot) 2 3 F sc_law_pot rfl rfl fun cdv A outer s H E hcv hG hr =>
  (ss_cons (s_asg (ps_set (i := 2) sc_law_pot.nd rfl (by first | exact .inl rfl | exact .inr rfl) (SE.pe (se_op or_add o2_add (SE.sp (se_op or_mul o2_mul (SE.sp se_int) (sp_var (pv 1)))) (SE.sp se_int)))) (fun _ _ _ h => h))
  (ss_cons (s_if (st_cmp (op_ltA (room65 hr)) c2_ltA (sp_var (pv 1)) (SE.sp (se_bi cr_len f1_len (by rfl) nb.b_len (by decide +kernel) (spa_cons (sp_var (pv 0)) spa_nil))) (nomark _))
  (ss_one (s_asg (ps_set (i := 2) sc_law_pot.nd rfl (by first | exact .inl rfl | exact .inr rfl) (SE.pe (se_bi call_abs f1_abs (by rfl) nb.b_abs (by decide +kernel) (spa_cons (SE.sp (se_ix ix_seq o2_ix (sp_var (pv 0)) (sp_var (pv 1)) (fun _ _ => rfl))) spa_nil)))) (fun _ _ _ h => h)))
  ss_nil)
  (ss_one (s_retpot (sl_lst (sa_cons (se_bi (call_max2 rfl) f1_max2 (by rfl) nb.b_max (by decide +kernel) (spa_cons (SE.sp se_int) (spa_cons (SE.sp (se_op op_sub o2_sub (sp_var (pv 2)) (SE.sp (se_op op_pow o2_pow (SE.sp se_int) (SE.sp se_int))))) spa_nil))) (sa_cons (se_op or_add o2_add (SE.sp (se_op op_mod o2_mod (SE.sp (se_bt call_int1 f1_int (by rfl) nb.b_int (by decide +kernel) (spa_cons (SE.sp (se_op or_add o2_add (SE.sp (se_op or_add o2_add (SE.sp (se_op or_mul o2_mul (SE.sp (se_op op_mod o2_mod (SE.sp (se_bt call_int1 f1_int (by rfl) nb.b_int (by decide +kernel) (spa_cons (sp_var (pv 2)) spa_nil))) (SE.sp se_int))) (SE.sp se_int))) (SE.sp (se_op or_mul o2_mul (SE.sp se_int) (sp_var (pv 1)))))) (SE.sp se_int))) spa_nil))) (SE.sp se_int))) (SE.sp se_int)) sa_nil)))))))
theorem ok_law (c_law_right : CalG P w K mg base 16 "_law_right" f_law_right) (c_law_pot : CalG P w K mg base 1 "_law_pot" f_law_pot) : ∀ f fd, Fun K "law" "law" s_law f fd → FnG P w K mg base 17 f fd ["script"] (spF K f_law) := fun f fd F => def_okG (m := b_law) 1 1 F sc_law rfl rfl fun cdv A outer s H E hcv hG hr =>
  (ss_one (s_ret (se_cG c_law_right hG hr (by decide) (by rfl) (sa_cons (se_cG c_law_pot hG hr (by decide) (by rfl) (sa_cons (se_var (pv 0)) (sa_cons se_int sa_nil))) sa_nil))))
end
section
variable {P : Program} {w : World} {K : PySem.W.Frag} {mg : Str → Option Value} {base : Heap}
theorem all_ok (a_law_draw : At K mg "_law_draw" s_law_draw) (a_law_pick : At K mg "_law_pick" s_law_pick) (a_divisor : At K mg "divisor" s_divisor) (a_reduced : At K mg "reduced" s_reduced) (a_divide : At K mg "divide" s_divide) (a_add : At K mg "add" s_add) (a_total : At K mg "total" s_total) (a_is_below : At K mg "is_below" s_is_below) (a_take : At K mg "take" s_take) (a_far_apart : At K mg "far_apart" s_far_apart) (a_distance_of : At K mg "distance_of" s_distance_of) (a_is_integer : At K mg "is_integer" s_is_integer) (a_is_fraction_of : At K mg "is_fraction_of" s_is_fraction_of) (a_is_lot_of : At K mg "is_lot_of" s_is_lot_of) (a_is_short : At K mg "is_short" s_is_short) (a_is_short_lot : At K mg "is_short_lot" s_is_short_lot) (a_check_lot : At K mg "check_lot" s_check_lot) (a_check_two : At K mg "check_two" s_check_two) (a_check_alike : At K mg "check_alike" s_check_alike) (a_distance : At K mg "distance" s_distance) (a_showing : At K mg "showing" s_showing) (a_lesser : At K mg "lesser" s_lesser) (a_first_left : At K mg "first_left" s_first_left) (a_put_along : At K mg "put_along" s_put_along) (a_left_of : At K mg "left_of" s_left_of) (a_alike_table : At K mg "alike_table" s_alike_table) (a_alike_pairing : At K mg "alike_pairing" s_alike_pairing) (a_is_list : At K mg "is_list" s_is_list) (a_is_chance : At K mg "is_chance" s_is_chance) (a_is_row : At K mg "is_row" s_is_row) (a_are_columns : At K mg "are_columns" s_are_columns) (a_is_table_of : At K mg "is_table_of" s_is_table_of) (a_is_nearest : At K mg "is_nearest" s_is_nearest) (a_least_of : At K mg "least_of" s_least_of) (a_least_chances : At K mg "least_chances" s_least_chances) (a_check_lots : At K mg "check_lots" s_check_lots) (a_most_alike : At K mg "most_alike" s_most_alike) (a_joint_of : At K mg "joint_of" s_joint_of) (a_told_joint : At K mg "told_joint" s_told_joint) (a_split_of : At K mg "split_of" s_split_of) (a_told_split : At K mg "told_split" s_told_split) (a_is_within : At K mg "is_within" s_is_within) (a_is_joint_row : At K mg "is_joint_row" s_is_joint_row) (a_sums_at : At K mg "sums_at" s_sums_at) (a_is_joint_of : At K mg "is_joint_of" s_is_joint_of) (a_is_joint : At K mg "is_joint" s_is_joint) (a_has_of : At K mg "has_of" s_has_of) (a_are_places : At K mg "are_places" s_are_places) (a_check_places : At K mg "check_places" s_check_places) (a_gap : At K mg "gap" s_gap) (a_alike_part : At K mg "alike_part" s_alike_part) (a_check_fraction : At K mg "check_fraction" s_check_fraction) (a_is_split : At K mg "is_split" s_is_split) (a_law_heard : At K mg "_law_heard" s_law_heard) (a_law_are : At K mg "_law_are" s_law_are) (a_law_two_calls : At K mg "_law_two_calls" s_law_two_calls) (a_law_lots_calls : At K mg "_law_lots_calls" s_law_lots_calls) (a_law_lots_right : At K mg "_law_lots_right" s_law_lots_right) (a_law_rest_right : At K mg "_law_rest_right" s_law_rest_right) (a_law_let_right : At K mg "_law_let_right" s_law_let_right) (a_law_right : At K mg "_law_right" s_law_right) (a_law_pot : At K mg "_law_pot" s_law_pot) (a_law : At K mg "law" s_law) (k_MOST_DIGITS : ConR K mg "MOST_DIGITS" (.int 1000000000000)) (k_MOST_LOTS : ConR K mg "MOST_LOTS" (.int 6)) (k_MOST_PLACES : ConR K mg "MOST_PLACES" (.int 8)) (k_NOUGHT : ConR K mg "NOUGHT" (.tup [(.int 0), (.int 1)])) (k_ONE : ConR K mg "ONE" (.tup [(.int 1), (.int 1)])) (k_TWO : ConR K mg "TWO" (.tup [(.int 2), (.int 1)])) (nb : Nb mg) (cf : ClsF K mg) (t_law_two_calls : PySem.W.tabIn K "_law_two_calls" = some (TC_law_two_calls, TP_law_two_calls)) (t_law_lots_calls : PySem.W.tabIn K "_law_lots_calls" = some (TC_law_lots_calls, TP_law_lots_calls)) (t_law_lots_right : PySem.W.tabIn K "_law_lots_right" = some (TC_law_lots_right, TP_law_lots_right)) (t_law_rest_right : PySem.W.tabIn K "_law_rest_right" = some (TC_law_rest_right, TP_law_rest_right)) (t_law_let_right : PySem.W.tabIn K "_law_let_right" = some (TC_law_let_right, TP_law_let_right)) (KB : K.In base) (GB : base.Ns mainGlobals mg) (tbs : ∀ x ∈ TBC, LamX.TabB base mg x.1 x.2.1) : ∀ f fd, Fun K "law" "law" s_law f fd → FnG P w K mg base 17 f fd ["script"] (spF K f_law) := by
  have cl : Cls P w K mg base := cls_of cf
  have o_law_draw := ok_law_draw (P := P) (w := w) (K := K) (mg := mg) (base := base) nb
  have c_law_draw := calG_mk a_law_draw o_law_draw (fun _ _ _ _ _ _ us hl => match us, hl with | [_, _], _ => rfl)
  have o_law_pick := ok_law_pick (P := P) (w := w) (K := K) (mg := mg) (base := base) c_law_draw nb
  have c_law_pick := calG_mk a_law_pick o_law_pick (fun _ _ _ _ _ _ us hl => match us, hl with | [_, _], _ => rfl)
  have o_divisor := ok_divisor (P := P) (w := w) (K := K) (mg := mg) (base := base) nb
  have r_divisor := cal_mk a_divisor o_divisor (fun _ _ _ _ _ _ us hl => match us, hl with | [_, _], _ => rfl)
  have o_divisor := fun f fd F => FnG.of (o_divisor f fd F)
  have c_divisor := calG_mk a_divisor o_divisor (fun _ _ _ _ _ _ us hl => match us, hl with | [_, _], _ => rfl)
  have o_reduced := ok_reduced (P := P) (w := w) (K := K) (mg := mg) (base := base) r_divisor nb
  have r_reduced := cal_mk a_reduced o_reduced (fun _ _ _ _ _ _ us hl => match us, hl with | [_, _], _ => rfl)
  have o_reduced := fun f fd F => FnG.of (o_reduced f fd F)
  have c_reduced := calG_mk a_reduced o_reduced (fun _ _ _ _ _ _ us hl => match us, hl with | [_, _], _ => rfl)
  have o_divide := ok_divide (P := P) (w := w) (K := K) (mg := mg) (base := base) r_reduced
  have r_divide := cal_mk a_divide o_divide (fun _ _ _ _ _ _ us hl => match us, hl with | [_, _], _ => rfl)
  have o_divide := fun f fd F => FnG.of (o_divide f fd F)
  have c_divide := calG_mk a_divide o_divide (fun _ _ _ _ _ _ us hl => match us, hl with | [_, _], _ => rfl)
  have o_add := ok_add (P := P) (w := w) (K := K) (mg := mg) (base := base) r_reduced
  have r_add := cal_mk a_add o_add (fun _ _ _ _ _ _ us hl => match us, hl with | [_, _], _ => rfl)
  have o_add := fun f fd F => FnG.of (o_add f fd F)
  have c_add := calG_mk a_add o_add (fun _ _ _ _ _ _ us hl => match us, hl with | [_, _], _ => rfl)
  have o_total := ok_total (P := P) (w := w) (K := K) (mg := mg) (base := base) r_add k_NOUGHT
  have r_total := cal_mk a_total o_total (fun _ _ _ _ _ _ us hl => match us, hl with | [_], _ => rfl)
  have o_total := fun f fd F => FnG.of (o_total f fd F)
  have c_total := calG_mk a_total o_total (fun _ _ _ _ _ _ us hl => match us, hl with | [_], _ => rfl)
  have o_is_below := ok_is_below (P := P) (w := w) (K := K) (mg := mg) (base := base) 
  have r_is_below := cal_mk a_is_below o_is_below (fun _ _ _ _ _ _ us hl => match us, hl with | [_, _], _ => rfl)
  have o_is_below := fun f fd F => FnG.of (o_is_below f fd F)
  have c_is_below := calG_mk a_is_below o_is_below (fun _ _ _ _ _ _ us hl => match us, hl with | [_, _], _ => rfl)
  have o_take := ok_take (P := P) (w := w) (K := K) (mg := mg) (base := base) r_reduced
  have r_take := cal_mk a_take o_take (fun _ _ _ _ _ _ us hl => match us, hl with | [_, _], _ => rfl)
  have o_take := fun f fd F => FnG.of (o_take f fd F)
  have c_take := calG_mk a_take o_take (fun _ _ _ _ _ _ us hl => match us, hl with | [_, _], _ => rfl)
  have o_far_apart := ok_far_apart (P := P) (w := w) (K := K) (mg := mg) (base := base) r_is_below r_take
  have r_far_apart := cal_mk a_far_apart o_far_apart (fun _ _ _ _ _ _ us hl => match us, hl with | [_, _], _ => rfl)
  have o_far_apart := fun f fd F => FnG.of (o_far_apart f fd F)
  have c_far_apart := calG_mk a_far_apart o_far_apart (fun _ _ _ _ _ _ us hl => match us, hl with | [_, _], _ => rfl)
  have o_distance_of := ok_distance_of (P := P) (w := w) (K := K) (mg := mg) (base := base) r_divide r_total r_far_apart k_TWO nb
  have r_distance_of := cal_mk a_distance_of o_distance_of (fun _ _ _ _ _ _ us hl => match us, hl with | [_, _], _ => rfl)
  have o_distance_of := fun f fd F => FnG.of (o_distance_of f fd F)
  have c_distance_of := calG_mk a_distance_of o_distance_of (fun _ _ _ _ _ _ us hl => match us, hl with | [_, _], _ => rfl)
  have o_is_integer := ok_is_integer (P := P) (w := w) (K := K) (mg := mg) (base := base) nb
  have r_is_integer := cal_mk a_is_integer o_is_integer (fun _ _ _ _ _ _ us hl => match us, hl with | [_], _ => rfl)
  have o_is_integer := fun f fd F => FnG.of (o_is_integer f fd F)
  have c_is_integer := calG_mk a_is_integer o_is_integer (fun _ _ _ _ _ _ us hl => match us, hl with | [_], _ => rfl)
  have o_is_fraction_of := ok_is_fraction_of (P := P) (w := w) (K := K) (mg := mg) (base := base) r_is_integer r_divisor nb
  have r_is_fraction_of := cal_mk a_is_fraction_of o_is_fraction_of (fun _ _ _ _ _ _ us hl => match us, hl with | [_], _ => rfl)
  have o_is_fraction_of := fun f fd F => FnG.of (o_is_fraction_of f fd F)
  have c_is_fraction_of := calG_mk a_is_fraction_of o_is_fraction_of (fun _ _ _ _ _ _ us hl => match us, hl with | [_], _ => rfl)
  have o_is_lot_of := ok_is_lot_of (P := P) (w := w) (K := K) (mg := mg) (base := base) r_is_fraction_of r_total k_MOST_PLACES k_ONE nb
  have r_is_lot_of := cal_mk a_is_lot_of o_is_lot_of (fun _ _ _ _ _ _ us hl => match us, hl with | [_], _ => rfl)
  have o_is_lot_of := fun f fd F => FnG.of (o_is_lot_of f fd F)
  have c_is_lot_of := calG_mk a_is_lot_of o_is_lot_of (fun _ _ _ _ _ _ us hl => match us, hl with | [_], _ => rfl)
  have o_is_short := ok_is_short (P := P) (w := w) (K := K) (mg := mg) (base := base) r_is_fraction_of k_MOST_DIGITS nb
  have r_is_short := cal_mk a_is_short o_is_short (fun _ _ _ _ _ _ us hl => match us, hl with | [_], _ => rfl)
  have o_is_short := fun f fd F => FnG.of (o_is_short f fd F)
  have c_is_short := calG_mk a_is_short o_is_short (fun _ _ _ _ _ _ us hl => match us, hl with | [_], _ => rfl)
  have o_is_short_lot := ok_is_short_lot (P := P) (w := w) (K := K) (mg := mg) (base := base) r_is_lot_of r_is_short nb
  have r_is_short_lot := cal_mk a_is_short_lot o_is_short_lot (fun _ _ _ _ _ _ us hl => match us, hl with | [_], _ => rfl)
  have o_is_short_lot := fun f fd F => FnG.of (o_is_short_lot f fd F)
  have c_is_short_lot := calG_mk a_is_short_lot o_is_short_lot (fun _ _ _ _ _ _ us hl => match us, hl with | [_], _ => rfl)
  have o_check_lot := ok_check_lot (P := P) (w := w) (K := K) (mg := mg) (base := base) cl r_is_short_lot
  have cv_check_lot := calv_mk a_check_lot o_check_lot (fun _ _ _ _ _ _ us hl => match us, hl with | [_], _ => rfl)
  have c_check_lot : CalG P w K mg base 7 "check_lot" f_check_lot := CalV.g cv_check_lot
  have r_check_lot : CalR P w K mg base 7 "check_lot" f_check_lot := CalV.r cv_check_lot
  have o_check_two := ok_check_two (P := P) (w := w) (K := K) (mg := mg) (base := base) cv_check_lot
  have cv_check_two := calv_mk a_check_two o_check_two (fun _ _ _ _ _ _ us hl => match us, hl with | [_, _], _ => rfl)
  have c_check_two : CalG P w K mg base 8 "check_two" f_check_two := CalV.g cv_check_two
  have r_check_two : CalR P w K mg base 8 "check_two" f_check_two := CalV.r cv_check_two
  have o_check_alike := ok_check_alike (P := P) (w := w) (K := K) (mg := mg) (base := base) cl cv_check_two nb
  have cv_check_alike := calv_mk a_check_alike o_check_alike (fun _ _ _ _ _ _ us hl => match us, hl with | [_, _], _ => rfl)
  have c_check_alike : CalG P w K mg base 9 "check_alike" f_check_alike := CalV.g cv_check_alike
  have r_check_alike : CalR P w K mg base 9 "check_alike" f_check_alike := CalV.r cv_check_alike
  have o_distance := ok_distance (P := P) (w := w) (K := K) (mg := mg) (base := base) cv_check_alike r_distance_of
  have cv_distance := calv_mk a_distance o_distance (fun _ _ _ _ _ _ us hl => match us, hl with | [_, _], _ => rfl)
  have c_distance : CalG P w K mg base 10 "distance" f_distance := CalV.g cv_distance
  have r_distance : CalR P w K mg base 10 "distance" f_distance := CalV.r cv_distance
  have o_showing := ok_showing (P := P) (w := w) (K := K) (mg := mg) (base := base) cv_check_alike r_is_below nb
  have cv_showing := calv_mk a_showing o_showing (fun _ _ _ _ _ _ us hl => match us, hl with | [_, _], _ => rfl)
  have c_showing : CalG P w K mg base 10 "showing" f_showing := CalV.g cv_showing
  have r_showing : CalR P w K mg base 10 "showing" f_showing := CalV.r cv_showing
  have cvk_showing_other_lot : CalKV P w K mg base 10 "showing" CC g_showing ["other", "lot"] [1, 0] := kwv_mk a_showing o_showing (fun _ _ _ _ _ _ ws hl => match ws, hl with | _ :: _ :: _, _ => rfl | [], h => by simp at h | [_], h => by simp at h)
  have ck_showing_other_lot : CalKG P w K mg base 10 "showing" f_showing ["other", "lot"] [1, 0] := CalKV.g cvk_showing_other_lot
  have rk_showing_other_lot : CalK P w K mg base 10 "showing" f_showing ["other", "lot"] [1, 0] := CalKV.r cvk_showing_other_lot
  have o_lesser := ok_lesser (P := P) (w := w) (K := K) (mg := mg) (base := base) r_is_below
  have r_lesser := cal_mk a_lesser o_lesser (fun _ _ _ _ _ _ us hl => match us, hl with | [_, _], _ => rfl)
  have o_lesser := fun f fd F => FnG.of (o_lesser f fd F)
  have c_lesser := calG_mk a_lesser o_lesser (fun _ _ _ _ _ _ us hl => match us, hl with | [_, _], _ => rfl)
  have o_first_left := ok_first_left (P := P) (w := w) (K := K) (mg := mg) (base := base) nb
  have r_first_left := cal_mk a_first_left o_first_left (fun _ _ _ _ _ _ us hl => match us, hl with | [_], _ => rfl)
  have o_first_left := fun f fd F => FnG.of (o_first_left f fd F)
  have c_first_left := calG_mk a_first_left o_first_left (fun _ _ _ _ _ _ us hl => match us, hl with | [_], _ => rfl)
  have o_put_along := ok_put_along (P := P) (w := w) (K := K) (mg := mg) (base := base) r_first_left r_lesser r_take
  have r_put_along := cal_mk a_put_along o_put_along (fun _ _ _ _ _ _ us hl => match us, hl with | [_, _, _], _ => rfl)
  have o_put_along := fun f fd F => FnG.of (o_put_along f fd F)
  have c_put_along := calG_mk a_put_along o_put_along (fun _ _ _ _ _ _ us hl => match us, hl with | [_, _, _], _ => rfl)
  have o_left_of := ok_left_of (P := P) (w := w) (K := K) (mg := mg) (base := base) r_take nb
  have r_left_of := cal_mk a_left_of o_left_of (fun _ _ _ _ _ _ us hl => match us, hl with | [_, _], _ => rfl)
  have o_left_of := fun f fd F => FnG.of (o_left_of f fd F)
  have c_left_of := calG_mk a_left_of o_left_of (fun _ _ _ _ _ _ us hl => match us, hl with | [_, _], _ => rfl)
  have o_alike_table := ok_alike_table (P := P) (w := w) (K := K) (mg := mg) (base := base) r_lesser r_put_along r_left_of k_NOUGHT nb
  have mu_alike_table := calM_mk a_alike_table o_alike_table (fun _ _ _ _ _ _ us hl => match us, hl with | [_, _], _ => rfl)
  have r_alike_table : CalR P w K mg base 5 "alike_table" f_alike_table := CalMu.r mu_alike_table
  have o_alike_table := fun f fd F => FnG.of (FnOk.ofM (o_alike_table f fd F))
  have c_alike_table := calG_mk a_alike_table o_alike_table (fun _ _ _ _ _ _ us hl => match us, hl with | [_, _], _ => rfl)
  have o_alike_pairing := ok_alike_pairing (P := P) (w := w) (K := K) (mg := mg) (base := base) cv_check_alike r_alike_table
  have cv_alike_pairing := calv_mk a_alike_pairing o_alike_pairing (fun _ _ _ _ _ _ us hl => match us, hl with | [_, _], _ => rfl)
  have c_alike_pairing : CalG P w K mg base 10 "alike_pairing" f_alike_pairing := CalV.g cv_alike_pairing
  have r_alike_pairing : CalR P w K mg base 10 "alike_pairing" f_alike_pairing := CalV.r cv_alike_pairing
  have o_is_list := ok_is_list (P := P) (w := w) (K := K) (mg := mg) (base := base) nb
  have r_is_list := cal_mk a_is_list o_is_list (fun _ _ _ _ _ _ us hl => match us, hl with | [_], _ => rfl)
  have o_is_list := fun f fd F => FnG.of (o_is_list f fd F)
  have c_is_list := calG_mk a_is_list o_is_list (fun _ _ _ _ _ _ us hl => match us, hl with | [_], _ => rfl)
  have o_is_chance := ok_is_chance (P := P) (w := w) (K := K) (mg := mg) (base := base) r_is_fraction_of
  have r_is_chance := cal_mk a_is_chance o_is_chance (fun _ _ _ _ _ _ us hl => match us, hl with | [_], _ => rfl)
  have o_is_chance := fun f fd F => FnG.of (o_is_chance f fd F)
  have c_is_chance := calG_mk a_is_chance o_is_chance (fun _ _ _ _ _ _ us hl => match us, hl with | [_], _ => rfl)
  have o_is_row := ok_is_row (P := P) (w := w) (K := K) (mg := mg) (base := base) r_is_chance r_total nb
  have r_is_row := cal_mk a_is_row o_is_row (fun _ _ _ _ _ _ us hl => match us, hl with | [_, _], _ => rfl)
  have o_is_row := fun f fd F => FnG.of (o_is_row f fd F)
  have c_is_row := calG_mk a_is_row o_is_row (fun _ _ _ _ _ _ us hl => match us, hl with | [_, _], _ => rfl)
  have o_are_columns := ok_are_columns (P := P) (w := w) (K := K) (mg := mg) (base := base) r_total nb
  have r_are_columns := cal_mk a_are_columns o_are_columns (fun _ _ _ _ _ _ us hl => match us, hl with | [_, _], _ => rfl)
  have o_are_columns := fun f fd F => FnG.of (o_are_columns f fd F)
  have c_are_columns := calG_mk a_are_columns o_are_columns (fun _ _ _ _ _ _ us hl => match us, hl with | [_, _], _ => rfl)
  have o_is_table_of := ok_is_table_of (P := P) (w := w) (K := K) (mg := mg) (base := base) r_is_list r_is_row r_are_columns nb
  have r_is_table_of := cal_mk a_is_table_of o_is_table_of (fun _ _ _ _ _ _ us hl => match us, hl with | [_, _, _], _ => rfl)
  have o_is_table_of := fun f fd F => FnG.of (o_is_table_of f fd F)
  have c_is_table_of := calG_mk a_is_table_of o_is_table_of (fun _ _ _ _ _ _ us hl => match us, hl with | [_, _, _], _ => rfl)
  have o_is_nearest := ok_is_nearest (P := P) (w := w) (K := K) (mg := mg) (base := base) cv_check_alike r_is_table_of r_total r_take r_distance_of k_ONE nb
  have cv_is_nearest := calv_mk a_is_nearest o_is_nearest (fun _ _ _ _ _ _ us hl => match us, hl with | [_, _, _], _ => rfl)
  have c_is_nearest : CalG P w K mg base 10 "is_nearest" f_is_nearest := CalV.g cv_is_nearest
  have r_is_nearest : CalR P w K mg base 10 "is_nearest" f_is_nearest := CalV.r cv_is_nearest
  have cvk_is_nearest_value_other_lot : CalKV P w K mg base 10 "is_nearest" CC g_is_nearest ["value", "other", "lot"] [2, 1, 0] := kwv_mk a_is_nearest o_is_nearest (fun _ _ _ _ _ _ ws hl => match ws, hl with | _ :: _ :: _ :: _, _ => rfl | [], h => by simp at h | [_], h => by simp at h | [_, _], h => by simp at h)
  have ck_is_nearest_value_other_lot : CalKG P w K mg base 10 "is_nearest" f_is_nearest ["value", "other", "lot"] [2, 1, 0] := CalKV.g cvk_is_nearest_value_other_lot
  have rk_is_nearest_value_other_lot : CalK P w K mg base 10 "is_nearest" f_is_nearest ["value", "other", "lot"] [2, 1, 0] := CalKV.r cvk_is_nearest_value_other_lot
  have o_least_of := ok_least_of (P := P) (w := w) (K := K) (mg := mg) (base := base) r_lesser
  have r_least_of := cal_mk a_least_of o_least_of (fun _ _ _ _ _ _ us hl => match us, hl with | [_], _ => rfl)
  have o_least_of := fun f fd F => FnG.of (o_least_of f fd F)
  have c_least_of := calG_mk a_least_of o_least_of (fun _ _ _ _ _ _ us hl => match us, hl with | [_], _ => rfl)
  have o_least_chances := ok_least_chances (P := P) (w := w) (K := K) (mg := mg) (base := base) r_least_of nb
  have r_least_chances := cal_mk a_least_chances o_least_chances (fun _ _ _ _ _ _ us hl => match us, hl with | [_], _ => rfl)
  have o_least_chances := fun f fd F => FnG.of (o_least_chances f fd F)
  have c_least_chances := calG_mk a_least_chances o_least_chances (fun _ _ _ _ _ _ us hl => match us, hl with | [_], _ => rfl)
  have o_check_lots := ok_check_lots (P := P) (w := w) (K := K) (mg := mg) (base := base) cl r_is_list r_is_short_lot k_MOST_LOTS nb
  have cv_check_lots := calv_mk a_check_lots o_check_lots (fun _ _ _ _ _ _ us hl => match us, hl with | [_], _ => rfl)
  have c_check_lots : CalG P w K mg base 7 "check_lots" f_check_lots := CalV.g cv_check_lots
  have r_check_lots : CalR P w K mg base 7 "check_lots" f_check_lots := CalV.r cv_check_lots
  have o_most_alike := ok_most_alike (P := P) (w := w) (K := K) (mg := mg) (base := base) cv_check_lots r_total r_least_chances
  have cv_most_alike := calv_mk a_most_alike o_most_alike (fun _ _ _ _ _ _ us hl => match us, hl with | [_], _ => rfl)
  have c_most_alike : CalG P w K mg base 8 "most_alike" f_most_alike := CalV.g cv_most_alike
  have r_most_alike : CalR P w K mg base 8 "most_alike" f_most_alike := CalV.r cv_most_alike
  have o_joint_of := ok_joint_of (P := P) (w := w) (K := K) (mg := mg) (base := base) r_least_chances r_left_of r_first_left r_least_of r_take nb
  have r_joint_of := cal_mk a_joint_of o_joint_of (fun _ _ _ _ _ _ us hl => match us, hl with | [_], _ => rfl)
  have o_joint_of := fun f fd F => FnG.of (o_joint_of f fd F)
  have c_joint_of := calG_mk a_joint_of o_joint_of (fun _ _ _ _ _ _ us hl => match us, hl with | [_], _ => rfl)
  have o_told_joint := ok_told_joint (P := P) (w := w) (K := K) (mg := mg) (base := base) cv_check_lots r_joint_of
  have cv_told_joint := calv_mk a_told_joint o_told_joint (fun _ _ _ _ _ _ us hl => match us, hl with | [_], _ => rfl)
  have c_told_joint : CalG P w K mg base 8 "told_joint" f_told_joint := CalV.g cv_told_joint
  have r_told_joint : CalR P w K mg base 8 "told_joint" f_told_joint := CalV.r cv_told_joint
  have cvk_told_joint_lots : CalKV P w K mg base 8 "told_joint" CC g_told_joint ["lots"] [0] := kwv_mk a_told_joint o_told_joint (fun _ _ _ _ _ _ ws hl => match ws, hl with | _ :: _, _ => rfl | [], h => by simp at h)
  have ck_told_joint_lots : CalKG P w K mg base 8 "told_joint" f_told_joint ["lots"] [0] := CalKV.g cvk_told_joint_lots
  have rk_told_joint_lots : CalK P w K mg base 8 "told_joint" f_told_joint ["lots"] [0] := CalKV.r cvk_told_joint_lots
  have o_split_of := ok_split_of (P := P) (w := w) (K := K) (mg := mg) (base := base) r_least_chances nb
  have r_split_of := cal_mk a_split_of o_split_of (fun _ _ _ _ _ _ us hl => match us, hl with | [_], _ => rfl)
  have o_split_of := fun f fd F => FnG.of (o_split_of f fd F)
  have c_split_of := calG_mk a_split_of o_split_of (fun _ _ _ _ _ _ us hl => match us, hl with | [_], _ => rfl)
  have o_told_split := ok_told_split (P := P) (w := w) (K := K) (mg := mg) (base := base) cv_check_lots r_split_of
  have cv_told_split := calv_mk a_told_split o_told_split (fun _ _ _ _ _ _ us hl => match us, hl with | [_], _ => rfl)
  have c_told_split : CalG P w K mg base 8 "told_split" f_told_split := CalV.g cv_told_split
  have r_told_split : CalR P w K mg base 8 "told_split" f_told_split := CalV.r cv_told_split
  have o_is_within := ok_is_within (P := P) (w := w) (K := K) (mg := mg) (base := base) r_is_integer
  have r_is_within := cal_mk a_is_within o_is_within (fun _ _ _ _ _ _ us hl => match us, hl with | [_, _, _], _ => rfl)
  have o_is_within := fun f fd F => FnG.of (o_is_within f fd F)
  have c_is_within := calG_mk a_is_within o_is_within (fun _ _ _ _ _ _ us hl => match us, hl with | [_, _, _], _ => rfl)
  have o_is_joint_row := ok_is_joint_row (P := P) (w := w) (K := K) (mg := mg) (base := base) r_is_fraction_of r_is_within nb
  have r_is_joint_row := cal_mk a_is_joint_row o_is_joint_row (fun _ _ _ _ _ _ us hl => match us, hl with | [_, _], _ => rfl)
  have o_is_joint_row := fun f fd F => FnG.of (o_is_joint_row f fd F)
  have c_is_joint_row := calG_mk a_is_joint_row o_is_joint_row (fun _ _ _ _ _ _ us hl => match us, hl with | [_, _], _ => rfl)
  have o_sums_at := ok_sums_at (P := P) (w := w) (K := K) (mg := mg) (base := base) r_add k_NOUGHT nb
  have r_sums_at := cal_mk a_sums_at o_sums_at (fun _ _ _ _ _ _ us hl => match us, hl with | [_, _, _], _ => rfl)
  have o_sums_at := fun f fd F => FnG.of (o_sums_at f fd F)
  have c_sums_at := calG_mk a_sums_at o_sums_at (fun _ _ _ _ _ _ us hl => match us, hl with | [_, _, _], _ => rfl)
  have o_is_joint_of := ok_is_joint_of (P := P) (w := w) (K := K) (mg := mg) (base := base) r_is_list r_is_joint_row r_sums_at nb
  have r_is_joint_of := cal_mk a_is_joint_of o_is_joint_of (fun _ _ _ _ _ _ us hl => match us, hl with | [_, _], _ => rfl)
  have o_is_joint_of := fun f fd F => FnG.of (o_is_joint_of f fd F)
  have c_is_joint_of := calG_mk a_is_joint_of o_is_joint_of (fun _ _ _ _ _ _ us hl => match us, hl with | [_, _], _ => rfl)
  have o_is_joint := ok_is_joint (P := P) (w := w) (K := K) (mg := mg) (base := base) cv_check_lots r_is_joint_of
  have cv_is_joint := calv_mk a_is_joint o_is_joint (fun _ _ _ _ _ _ us hl => match us, hl with | [_, _], _ => rfl)
  have c_is_joint : CalG P w K mg base 8 "is_joint" f_is_joint := CalV.g cv_is_joint
  have r_is_joint : CalR P w K mg base 8 "is_joint" f_is_joint := CalV.r cv_is_joint
  have o_has_of := ok_has_of (P := P) (w := w) (K := K) (mg := mg) (base := base) r_total
  have r_has_of := cal_mk a_has_of o_has_of (fun _ _ _ _ _ _ us hl => match us, hl with | [_, _], _ => rfl)
  have o_has_of := fun f fd F => FnG.of (o_has_of f fd F)
  have c_has_of := calG_mk a_has_of o_has_of (fun _ _ _ _ _ _ us hl => match us, hl with | [_, _], _ => rfl)
  have o_are_places := ok_are_places (P := P) (w := w) (K := K) (mg := mg) (base := base) r_is_list r_is_within nb
  have r_are_places := cal_mk a_are_places o_are_places (fun _ _ _ _ _ _ us hl => match us, hl with | [_, _], _ => rfl)
  have o_are_places := fun f fd F => FnG.of (o_are_places f fd F)
  have c_are_places := calG_mk a_are_places o_are_places (fun _ _ _ _ _ _ us hl => match us, hl with | [_, _], _ => rfl)
  have o_check_places := ok_check_places (P := P) (w := w) (K := K) (mg := mg) (base := base) cl r_are_places
  have cv_check_places := calv_mk a_check_places o_check_places (fun _ _ _ _ _ _ us hl => match us, hl with | [_, _], _ => rfl)
  have c_check_places : CalG P w K mg base 4 "check_places" f_check_places := CalV.g cv_check_places
  have r_check_places : CalR P w K mg base 4 "check_places" f_check_places := CalV.r cv_check_places
  have o_gap := ok_gap (P := P) (w := w) (K := K) (mg := mg) (base := base) cl cv_check_two cv_check_places r_take r_has_of nb
  have cv_gap := calv_mk a_gap o_gap (fun _ _ _ _ _ _ us hl => match us, hl with | [_, _, _], _ => rfl)
  have c_gap : CalG P w K mg base 9 "gap" f_gap := CalV.g cv_gap
  have r_gap : CalR P w K mg base 9 "gap" f_gap := CalV.r cv_gap
  have cvk_gap_places_other_lot : CalKV P w K mg base 9 "gap" CC g_gap ["places", "other", "lot"] [2, 1, 0] := kwv_mk a_gap o_gap (fun _ _ _ _ _ _ ws hl => match ws, hl with | _ :: _ :: _ :: _, _ => rfl | [], h => by simp at h | [_], h => by simp at h | [_, _], h => by simp at h)
  have ck_gap_places_other_lot : CalKG P w K mg base 9 "gap" f_gap ["places", "other", "lot"] [2, 1, 0] := CalKV.g cvk_gap_places_other_lot
  have rk_gap_places_other_lot : CalK P w K mg base 9 "gap" f_gap ["places", "other", "lot"] [2, 1, 0] := CalKV.r cvk_gap_places_other_lot
  have o_alike_part := ok_alike_part (P := P) (w := w) (K := K) (mg := mg) (base := base) cl cv_check_lots r_is_joint_of r_total nb
  have cv_alike_part := calv_mk a_alike_part o_alike_part (fun _ _ _ _ _ _ us hl => match us, hl with | [_, _], _ => rfl)
  have c_alike_part : CalG P w K mg base 8 "alike_part" f_alike_part := CalV.g cv_alike_part
  have r_alike_part : CalR P w K mg base 8 "alike_part" f_alike_part := CalV.r cv_alike_part
  have cvk_alike_part_joint_lots : CalKV P w K mg base 8 "alike_part" CC g_alike_part ["joint", "lots"] [1, 0] := kwv_mk a_alike_part o_alike_part (fun _ _ _ _ _ _ ws hl => match ws, hl with | _ :: _ :: _, _ => rfl | [], h => by simp at h | [_], h => by simp at h)
  have ck_alike_part_joint_lots : CalKG P w K mg base 8 "alike_part" f_alike_part ["joint", "lots"] [1, 0] := CalKV.g cvk_alike_part_joint_lots
  have rk_alike_part_joint_lots : CalK P w K mg base 8 "alike_part" f_alike_part ["joint", "lots"] [1, 0] := CalKV.r cvk_alike_part_joint_lots
  have o_check_fraction := ok_check_fraction (P := P) (w := w) (K := K) (mg := mg) (base := base) cl r_is_short
  have cv_check_fraction := calv_mk a_check_fraction o_check_fraction (fun _ _ _ _ _ _ us hl => match us, hl with | [_], _ => rfl)
  have c_check_fraction : CalG P w K mg base 4 "check_fraction" f_check_fraction := CalV.g cv_check_fraction
  have r_check_fraction : CalR P w K mg base 4 "check_fraction" f_check_fraction := CalV.r cv_check_fraction
  have o_is_split := ok_is_split (P := P) (w := w) (K := K) (mg := mg) (base := base) cv_check_lots cv_check_fraction r_is_list r_is_within r_is_below r_total nb
  have cv_is_split := calv_mk a_is_split o_is_split (fun _ _ _ _ _ _ us hl => match us, hl with | [_, _, _], _ => rfl)
  have c_is_split : CalG P w K mg base 8 "is_split" f_is_split := CalV.g cv_is_split
  have r_is_split : CalR P w K mg base 8 "is_split" f_is_split := CalV.r cv_is_split
  have cvk_is_split_value_fraction_lots : CalKV P w K mg base 8 "is_split" CC g_is_split ["value", "fraction", "lots"] [2, 1, 0] := kwv_mk a_is_split o_is_split (fun _ _ _ _ _ _ ws hl => match ws, hl with | _ :: _ :: _ :: _, _ => rfl | [], h => by simp at h | [_], h => by simp at h | [_, _], h => by simp at h)
  have ck_is_split_value_fraction_lots : CalKG P w K mg base 8 "is_split" f_is_split ["value", "fraction", "lots"] [2, 1, 0] := CalKV.g cvk_is_split_value_fraction_lots
  have rk_is_split_value_fraction_lots : CalK P w K mg base 8 "is_split" f_is_split ["value", "fraction", "lots"] [2, 1, 0] := CalKV.r cvk_is_split_value_fraction_lots
  have clos : ∀ n cf, cfs[n]? = some cf → CloOk P w K mg base 11 CC n cf := fun n cf h => match n, h with
    | 0, h => Option.some.inj (h : some cf_0 = some cf) ▸ clo_ok_0 cv_distance
    | 1, h => Option.some.inj (h : some cf_1 = some cf) ▸ clo_ok_1 cvk_showing_other_lot
    | 2, h => Option.some.inj (h : some cf_2 = some cf) ▸ clo_ok_2 cv_alike_pairing
    | 3, h => Option.some.inj (h : some cf_3 = some cf) ▸ clo_ok_3 cvk_is_nearest_value_other_lot
    | 4, h => Option.some.inj (h : some cf_4 = some cf) ▸ clo_ok_4 cv_most_alike
    | 5, h => Option.some.inj (h : some cf_5 = some cf) ▸ clo_ok_5 cvk_told_joint_lots
    | 6, h => Option.some.inj (h : some cf_6 = some cf) ▸ clo_ok_6 cv_told_split
    | 7, h => Option.some.inj (h : some cf_7 = some cf) ▸ clo_ok_7 cv_is_joint
    | 8, h => Option.some.inj (h : some cf_8 = some cf) ▸ clo_ok_8 cv_gap
    | 9, h => Option.some.inj (h : some cf_9 = some cf) ▸ clo_ok_9 cvk_gap_places_other_lot
    | 10, h => Option.some.inj (h : some cf_10 = some cf) ▸ clo_ok_10 cv_alike_part
    | 11, h => Option.some.inj (h : some cf_11 = some cf) ▸ clo_ok_11 cv_is_split
    | 12, h => Option.some.inj (h : some cf_12 = some cf) ▸ clo_ok_12 cvk_alike_part_joint_lots
    | 13, h => Option.some.inj (h : some cf_13 = some cf) ▸ clo_ok_13 cv_is_split
    | 14, h => Option.some.inj (h : some cf_14 = some cf) ▸ clo_ok_14 cv_gap
    | 15, h => Option.some.inj (h : some cf_15 = some cf) ▸ clo_ok_15 cv_gap
    | 16, h => Option.some.inj (h : some cf_16 = some cf) ▸ clo_ok_16 cv_gap
    | 17, h => Option.some.inj (h : some cf_17 = some cf) ▸ clo_ok_17 cvk_gap_places_other_lot
    | 18, h => Option.some.inj (h : some cf_18 = some cf) ▸ clo_ok_18 cv_is_split
    | 19, h => Option.some.inj (h : some cf_19 = some cf) ▸ clo_ok_19 cvk_is_split_value_fraction_lots
    | 20, h => Option.some.inj (h : some cf_20 = some cf) ▸ clo_ok_20 cv_alike_part
    | 21, h => Option.some.inj (h : some cf_21 = some cf) ▸ clo_ok_21 cvk_alike_part_joint_lots
    | 22, h => Option.some.inj (h : some cf_22 = some cf) ▸ clo_ok_22 cv_gap
    | 23, h => Option.some.inj (h : some cf_23 = some cf) ▸ clo_ok_23 cv_gap
    | 24, h => Option.some.inj (h : some cf_24 = some cf) ▸ clo_ok_24 cv_is_split
    | 25, h => Option.some.inj (h : some cf_25 = some cf) ▸ clo_ok_25 cv_is_split
    | 26, h => Option.some.inj (h : some cf_26 = some cf) ▸ clo_ok_26 cv_alike_part r_told_joint
    | n + 27, h => by simp [cfs] at h
  have o_law_heard := ok_law_heard (P := P) (w := w) (K := K) (mg := mg) (base := base) cl clos nb
  have c_law_heard := calG_mk a_law_heard o_law_heard (fun _ _ _ _ _ _ us hl => match us, hl with | [_], _ => rfl)
  have o_law_are := ok_law_are (P := P) (w := w) (K := K) (mg := mg) (base := base) c_law_heard
  have c_law_are := calG_mk a_law_are o_law_are (fun _ _ _ _ _ _ us hl => match us, hl with | [_, _, _], _ => rfl)
  have o_law_two_calls := ok_law_two_calls (P := P) (w := w) (K := K) (mg := mg) (base := base) KB GB tbs t_law_two_calls
  have cl_law_two_calls := call_mk a_law_two_calls o_law_two_calls (fun _ _ _ _ _ _ us hl => match us, hl with | [_, _], _ => rfl)
  have o_law_lots_calls := ok_law_lots_calls (P := P) (w := w) (K := K) (mg := mg) (base := base) KB GB tbs t_law_lots_calls
  have cl_law_lots_calls := call_mk a_law_lots_calls o_law_lots_calls (fun _ _ _ _ _ _ us hl => match us, hl with | [_], _ => rfl)
  have o_law_lots_right := ok_law_lots_right (P := P) (w := w) (K := K) (mg := mg) (base := base) KB GB tbs t_law_lots_right cl_law_two_calls cl_law_lots_calls c_law_are nb
  have c_law_lots_right := calG_mkC a_law_lots_right o_law_lots_right (fun _ _ _ _ _ _ us hl => match us, hl with | [_], _ => rfl)
  have o_law_rest_right := ok_law_rest_right (P := P) (w := w) (K := K) (mg := mg) (base := base) KB GB tbs t_law_rest_right cl_law_two_calls c_law_are nb
  have c_law_rest_right := calG_mkC a_law_rest_right o_law_rest_right (fun _ _ _ _ _ _ us hl => match us, hl with | [_], _ => rfl)
  have o_law_let_right := ok_law_let_right (P := P) (w := w) (K := K) (mg := mg) (base := base) cl KB GB tbs t_law_let_right cl_law_two_calls cl_law_lots_calls c_law_are c_law_pick c_is_split c_is_joint c_is_nearest nb
  have c_law_let_right := calG_mkC a_law_let_right o_law_let_right (fun _ _ _ _ _ _ us hl => match us, hl with | [_, _], _ => rfl)
  have o_law_right := ok_law_right (P := P) (w := w) (K := K) (mg := mg) (base := base) c_law_pick c_law_lots_right c_law_rest_right c_law_let_right
  have c_law_right := calG_mk a_law_right o_law_right (fun _ _ _ _ _ _ us hl => match us, hl with | [_], _ => rfl)
  have o_law_pot := ok_law_pot (P := P) (w := w) (K := K) (mg := mg) (base := base) nb
  have c_law_pot := calG_mk a_law_pot o_law_pot (fun _ _ _ _ _ _ us hl => match us, hl with | [_, _], _ => rfl)
  have o_law := ok_law (P := P) (w := w) (K := K) (mg := mg) (base := base) c_law_right c_law_pot
  exact o_law
end
end Law

set_option Elab.async false
set_option linter.all false
set_option maxRecDepth 1000000
set_option maxHeartbeats 4000000
/-! the law: its draws are a menu's, so the kernel reads off what its main def gives -/
namespace Law
open R PySem L2
open Tree (leaf fail)
def yes : D → Bool
  | .bl b => b
  | _ => false
theorem yes_all {t : Tree D} (h : Tree.allB yes t = true) : AllS (fun r => r = .bl true) t := ⟨Tree.all_mono (fun a ha => by
  cases a with
  | bl b => cases b with
    | true => rfl
    | false => cases ha
  | _ => cases ha) (Tree.all_of_allB h)⟩
def Tree.sub {α : Type} : Tree α → Nat → Tree α
  | .draw _ k, i => k i
  | t, _ => t
def Tree.wid {α : Type} : Tree α → Nat
  | .draw n _ => n
  | _ => 0
theorem allB_sub {α : Type} {P : α → Bool} {t : Tree α} (n : Nat) (h : (Tree.wid t == n && decide (0 < n)) = true) (q : ∀ i, i < n → (Tree.sub t i).allB P = true) : t.allB P = true := by
  rw [Bool.and_eq_true, beq_iff_eq, decide_eq_true_eq] at h
  obtain ⟨h1, h2⟩ := h
  cases t with
  | leaf a => exact q 0 h2
  | fail => exact q 0 h2
  | draw m k =>
    have e : m = n := h1
    subst e
    exact List.all_eq_true.mpr fun i hi => q i (List.mem_range.mp hi)
theorem right_0 : Tree.allB yes (Tree.sub (f_law_right [.pot]) 0) = true := by decide +kernel
theorem right_1 : Tree.allB yes (Tree.sub (f_law_right [.pot]) 1) = true := by decide +kernel
theorem right_2 : Tree.allB yes (Tree.sub (f_law_right [.pot]) 2) = true := by decide +kernel
theorem right_S : AllS (fun r => r = .bl true) (f_law_right [.pot]) := yes_all (allB_sub 3 (by decide +kernel) fun i hi => match i, hi with
  | 0, _ => right_0
  | 1, _ => right_1
  | 2, _ => right_2
  | i + 3, h => absurd h (by omega))
theorem cLtA_ii (i j : Int) : cLtA (.int i) (.int j) = .leaf (decide (i < j)) := rfl
theorem law_pot_eq (ns : List Int) (k : Nat) (k1 : k < 4) : f_law_pot [.scr ns, .int (k : Int)] = .leaf .pot := by
  have o0 := opMul_i (i := 1753) (j := (k : Int)) (small_bb (by omega)) (small_bb (by omega))
  have len : fLen [.scr ns] = .leaf (.int ns.length) := rfl
  have pw : opPow (.int 10) (.int 18) = .leaf (.int (10 ^ 18)) := pow_i (by decide)
  have md := fun c : Int => opMod_i (i := c) (j := 2147483549) (by omega)
  have md2 := fun c : Int => opMod_i (i := c) (j := 2147483563) (by omega)
  have o2 := fun c : Int => opMul_i (i := c % 2147483549) (j := 40692) (small_bb (by omega)) (small_bb (by omega))
  have fin : ∀ c : Int, (decide (0 ≤ (if c - 10 ^ 18 > 0 then c - 10 ^ 18 else 0)) && decide (0 ≤ (c % 2147483549 * 40692 + 1753 * (k : Int) + 1123) % 2147483563 + 1) && decide ((c % 2147483549 * 40692 + 1753 * (k : Int) + 1123) % 2147483563 + 1 < 4294967296)) = true := fun c => pot_if (by split <;> omega) (by omega) (by omega)
  unfold f_law_pot b_law_pot
  simp only [mDef, En.start, oSeq, oIf, oRet, oSet, oNx, m2, m1, mA, aCons, aNil, mB, mC, mT, mLst, mList, asB_b, allS_leaf, wipe_n, wipe_c, wset_z, wset_s, tYesM, mLc_1, mRange1_b, bind_assoc', bind_leaf, bind_fail, lineOk_1, lineOk_2, lineOk_3, mPeek_z, mPeek_s, mVar_z, mVar_s, put_z, put_s, opAdd_i, opSub_i, cLt_i, fAbs_i, fInt_i, Bool.false_eq_true, List.length_cons, List.length_nil, List.map_cons, List.map_nil, List.cons_append, List.nil_append, List.replicate, Nat.reduceAdd, Nat.reduceSub, Nat.zero_add, if_true, if_false, ↓reduceIte, o0, len, cLtA_ii]
  by_cases h : k < ns.length
  · obtain ⟨a, e⟩ := scr_at ns k h
    simp only [mDef, En.start, oSeq, oIf, oRet, oSet, oNx, m2, m1, mA, aCons, aNil, mB, mC, mT, mLst, mList, asB_b, allS_leaf, wipe_n, wipe_c, wset_z, wset_s, tYesM, mLc_1, mRange1_b, bind_assoc', bind_leaf, bind_fail, lineOk_1, lineOk_2, lineOk_3, mPeek_z, mPeek_s, mVar_z, mVar_s, put_z, put_s, opAdd_i, opSub_i, cLt_i, fAbs_i, fInt_i, Bool.false_eq_true, List.length_cons, List.length_nil, List.map_cons, List.map_nil, List.cons_append, List.nil_append, List.replicate, Nat.reduceAdd, Nat.reduceSub, Nat.zero_add, if_true, if_false, ↓reduceIte, decide_eq_true (show (k : Int) < (ns.length : Int) by omega), e, oPot_b, pw, max2_i, md, md2, o2, o0]
    rw [potK_i (fin _), bind_leaf]
  · simp only [mDef, En.start, oSeq, oIf, oRet, oSet, oNx, m2, m1, mA, aCons, aNil, mB, mC, mT, mLst, mList, asB_b, allS_leaf, wipe_n, wipe_c, wset_z, wset_s, tYesM, mLc_1, mRange1_b, bind_assoc', bind_leaf, bind_fail, lineOk_1, lineOk_2, lineOk_3, mPeek_z, mPeek_s, mVar_z, mVar_s, put_z, put_s, opAdd_i, opSub_i, cLt_i, fAbs_i, fInt_i, Bool.false_eq_true, List.length_cons, List.length_nil, List.map_cons, List.map_nil, List.cons_append, List.nil_append, List.replicate, Nat.reduceAdd, Nat.reduceSub, Nat.zero_add, if_true, if_false, ↓reduceIte, decide_eq_false (show ¬ (k : Int) < (ns.length : Int) by omega), oPot_b, pw, max2_i, md, md2, o2, o0]
    rw [potK_i (fin _), bind_leaf]
theorem law_S (ns : List Int) : AllS (fun r => r = .bl true) (f_law [.scr ns]) := by
  have hr := right_S
  have hp := law_pot_eq ns 0 (by omega)
  have hp : f_law_pot [.scr ns, .int 0] = .leaf .pot := hp
  unfold f_law b_law
  generalize f_law_right = fr at *
  generalize f_law_pot = fp at *
  simp only [mDef, En.start, oSeq, oIf, oRet, oSet, oNx, m2, m1, mA, aCons, aNil, mB, mC, mT, mLst, mList, asB_b, allS_leaf, wipe_n, wipe_c, wset_z, wset_s, tYesM, mLc_1, mRange1_b, bind_assoc', bind_leaf, bind_fail, lineOk_1, lineOk_2, lineOk_3, mPeek_z, mPeek_s, mVar_z, mVar_s, put_z, put_s, opAdd_i, opSub_i, cLt_i, fAbs_i, fInt_i, Bool.false_eq_true, List.length_cons, List.length_nil, List.map_cons, List.map_nil, List.cons_append, List.nil_append, List.replicate, Nat.reduceAdd, Nat.reduceSub, Nat.zero_add, if_true, if_false, ↓reduceIte, hp]
  rw [allS_bind]
  exact allS_mono hr fun d hd => by rw [allS_leaf]; exact hd
end Law

set_option Elab.async false
set_option linter.all false
set_option maxRecDepth 100000
namespace Law
open PySem PySem.Spec PyProof.Rows L2 R
section
variable {P : Program} {w : World} {K : PySem.W.Frag} {mg : Str → Option Value} {h : Heap} {fa : Addr}
theorem end_mk (a_law_draw : At K mg "_law_draw" s_law_draw) (a_law_pick : At K mg "_law_pick" s_law_pick) (a_divisor : At K mg "divisor" s_divisor) (a_reduced : At K mg "reduced" s_reduced) (a_divide : At K mg "divide" s_divide) (a_add : At K mg "add" s_add) (a_total : At K mg "total" s_total) (a_is_below : At K mg "is_below" s_is_below) (a_take : At K mg "take" s_take) (a_far_apart : At K mg "far_apart" s_far_apart) (a_distance_of : At K mg "distance_of" s_distance_of) (a_is_integer : At K mg "is_integer" s_is_integer) (a_is_fraction_of : At K mg "is_fraction_of" s_is_fraction_of) (a_is_lot_of : At K mg "is_lot_of" s_is_lot_of) (a_is_short : At K mg "is_short" s_is_short) (a_is_short_lot : At K mg "is_short_lot" s_is_short_lot) (a_check_lot : At K mg "check_lot" s_check_lot) (a_check_two : At K mg "check_two" s_check_two) (a_check_alike : At K mg "check_alike" s_check_alike) (a_distance : At K mg "distance" s_distance) (a_showing : At K mg "showing" s_showing) (a_lesser : At K mg "lesser" s_lesser) (a_first_left : At K mg "first_left" s_first_left) (a_put_along : At K mg "put_along" s_put_along) (a_left_of : At K mg "left_of" s_left_of) (a_alike_table : At K mg "alike_table" s_alike_table) (a_alike_pairing : At K mg "alike_pairing" s_alike_pairing) (a_is_list : At K mg "is_list" s_is_list) (a_is_chance : At K mg "is_chance" s_is_chance) (a_is_row : At K mg "is_row" s_is_row) (a_are_columns : At K mg "are_columns" s_are_columns) (a_is_table_of : At K mg "is_table_of" s_is_table_of) (a_is_nearest : At K mg "is_nearest" s_is_nearest) (a_least_of : At K mg "least_of" s_least_of) (a_least_chances : At K mg "least_chances" s_least_chances) (a_check_lots : At K mg "check_lots" s_check_lots) (a_most_alike : At K mg "most_alike" s_most_alike) (a_joint_of : At K mg "joint_of" s_joint_of) (a_told_joint : At K mg "told_joint" s_told_joint) (a_split_of : At K mg "split_of" s_split_of) (a_told_split : At K mg "told_split" s_told_split) (a_is_within : At K mg "is_within" s_is_within) (a_is_joint_row : At K mg "is_joint_row" s_is_joint_row) (a_sums_at : At K mg "sums_at" s_sums_at) (a_is_joint_of : At K mg "is_joint_of" s_is_joint_of) (a_is_joint : At K mg "is_joint" s_is_joint) (a_has_of : At K mg "has_of" s_has_of) (a_are_places : At K mg "are_places" s_are_places) (a_check_places : At K mg "check_places" s_check_places) (a_gap : At K mg "gap" s_gap) (a_alike_part : At K mg "alike_part" s_alike_part) (a_check_fraction : At K mg "check_fraction" s_check_fraction) (a_is_split : At K mg "is_split" s_is_split) (a_law_heard : At K mg "_law_heard" s_law_heard) (a_law_are : At K mg "_law_are" s_law_are) (a_law_two_calls : At K mg "_law_two_calls" s_law_two_calls) (a_law_lots_calls : At K mg "_law_lots_calls" s_law_lots_calls) (a_law_lots_right : At K mg "_law_lots_right" s_law_lots_right) (a_law_rest_right : At K mg "_law_rest_right" s_law_rest_right) (a_law_let_right : At K mg "_law_let_right" s_law_let_right) (a_law_right : At K mg "_law_right" s_law_right) (a_law_pot : At K mg "_law_pot" s_law_pot) (a_law : At K mg "law" s_law) (k_MOST_DIGITS : ConR K mg "MOST_DIGITS" (.int 1000000000000)) (k_MOST_LOTS : ConR K mg "MOST_LOTS" (.int 6)) (k_MOST_PLACES : ConR K mg "MOST_PLACES" (.int 8)) (k_NOUGHT : ConR K mg "NOUGHT" (.tup [(.int 0), (.int 1)])) (k_ONE : ConR K mg "ONE" (.tup [(.int 1), (.int 1)])) (k_TWO : ConR K mg "TWO" (.tup [(.int 2), (.int 1)])) (nb : Nb mg) (cf : ClsF K mg) (t_law_two_calls : PySem.W.tabIn K "_law_two_calls" = some (TC_law_two_calls, TP_law_two_calls)) (t_law_lots_calls : PySem.W.tabIn K "_law_lots_calls" = some (TC_law_lots_calls, TP_law_lots_calls)) (t_law_lots_right : PySem.W.tabIn K "_law_lots_right" = some (TC_law_lots_right, TP_law_lots_right)) (t_law_rest_right : PySem.W.tabIn K "_law_rest_right" = some (TC_law_rest_right, TP_law_rest_right)) (t_law_let_right : PySem.W.tabIn K "_law_let_right" = some (TC_law_let_right, TP_law_let_right)) (hfa : mg "law" = some (.ref fa)) :
    ∃ fd : FuncData, (∀ (s : Shared) (v : Value), BindsTo s fd ⟨[v], []⟩ [("script", v)]) ∧ ∀ base : Heap, K.In base → base.Ns mainGlobals mg → (∀ x ∈ TBC, LamX.TabB base mg x.1 x.2.1) → FnG P w K mg base 17 fa fd ["script"] (spF K f_law) := by
  obtain ⟨f, fd, F, hm⟩ := id a_law
  have e := hfa.symm.trans hm
  cases e
  have F0 := F
  obtain ⟨oc, od, kV, doc, pm, an, cdv, ct, osl, e, lk, hcd⟩ := F.ex
  refine ⟨fd, fun s v => by rw [e]; exact .of_eq rfl, fun base KB GB tbs => all_ok a_law_draw a_law_pick a_divisor a_reduced a_divide a_add a_total a_is_below a_take a_far_apart a_distance_of a_is_integer a_is_fraction_of a_is_lot_of a_is_short a_is_short_lot a_check_lot a_check_two a_check_alike a_distance a_showing a_lesser a_first_left a_put_along a_left_of a_alike_table a_alike_pairing a_is_list a_is_chance a_is_row a_are_columns a_is_table_of a_is_nearest a_least_of a_least_chances a_check_lots a_most_alike a_joint_of a_told_joint a_split_of a_told_split a_is_within a_is_joint_row a_sums_at a_is_joint_of a_is_joint a_has_of a_are_places a_check_places a_gap a_alike_part a_check_fraction a_is_split a_law_heard a_law_are a_law_two_calls a_law_lots_calls a_law_lots_right a_law_rest_right a_law_let_right a_law_right a_law_pot a_law k_MOST_DIGITS k_MOST_LOTS k_MOST_PLACES k_NOUGHT k_ONE k_TWO nb cf t_law_two_calls t_law_lots_calls t_law_lots_right t_law_rest_right t_law_let_right KB GB tbs fa fd F0⟩
end
end Law
open PySem PySem.W PyProof.Rows
set_option maxHeartbeats 0 in
theorem PySem.Challenge.cw_chancepairs_k21_nearest_refused_holds : PySem.Challenge.rw_chancepairs_k21_nearest_refused.Holds := by
  w_on; o_law; k_head; (case hw => w_witness2)
  k_fill
  refine R.walk_RG (l := PySem.Challenge.rw_chancepairs_k21_nearest_refused) (n := 63) (k := 17) (x := "script") (fn := Law.f_law) rfl (by decide) rfl ⟨rfl, by decide, by decide⟩ (fun w h Y => PySem.W.km_in_of Y) ?Tb ?F (fun ns _ _ => (Law.law_S ns).h)
  case Tb =>
    intro w x hx
    simp only [R.TBC, List.mem_cons, List.not_mem_nil, or_false] at hx
    rcases hx with rfl | rfl | rfl | rfl | rfl
    · exact ⟨"_law_two_calls", _, rfl, by kernel_rfl, by kernel_rfl⟩
    · exact ⟨"_law_lots_calls", _, rfl, by kernel_rfl, by kernel_rfl⟩
    · exact ⟨"_law_lots_right", _, rfl, by kernel_rfl, by kernel_rfl⟩
    · exact ⟨"_law_rest_right", _, rfl, by kernel_rfl, by kernel_rfl⟩
    · exact ⟨"_law_let_right", _, rfl, by kernel_rfl, by kernel_rfl⟩
  case F =>
    intro w mg fa h XL KX G hmg
    refine' Law.end_mk (R.at_of KX G ?a0 ?l0 ?c0 ?k0) (R.at_of KX G ?a1 ?l1 ?c1 ?k1) (R.at_of KX G ?a2 ?l2 ?c2 ?k2) (R.at_of KX G ?a3 ?l3 ?c3 ?k3) (R.at_of KX G ?a4 ?l4 ?c4 ?k4) (R.at_of KX G ?a5 ?l5 ?c5 ?k5) (R.at_of KX G ?a6 ?l6 ?c6 ?k6) (R.at_of KX G ?a7 ?l7 ?c7 ?k7) (R.at_of KX G ?a8 ?l8 ?c8 ?k8) (R.at_of KX G ?a9 ?l9 ?c9 ?k9) (R.at_of KX G ?a10 ?l10 ?c10 ?k10) (R.at_of KX G ?a11 ?l11 ?c11 ?k11) (R.at_of KX G ?a12 ?l12 ?c12 ?k12) (R.at_of KX G ?a13 ?l13 ?c13 ?k13) (R.at_of KX G ?a14 ?l14 ?c14 ?k14) (R.at_of KX G ?a15 ?l15 ?c15 ?k15) (R.at_of KX G ?a16 ?l16 ?c16 ?k16) (R.at_of KX G ?a17 ?l17 ?c17 ?k17) (R.at_of KX G ?a18 ?l18 ?c18 ?k18) (R.at_of KX G ?a19 ?l19 ?c19 ?k19) (R.at_of KX G ?a20 ?l20 ?c20 ?k20) (R.at_of KX G ?a21 ?l21 ?c21 ?k21) (R.at_of KX G ?a22 ?l22 ?c22 ?k22) (R.at_of KX G ?a23 ?l23 ?c23 ?k23) (R.at_of KX G ?a24 ?l24 ?c24 ?k24) (R.at_of KX G ?a25 ?l25 ?c25 ?k25) (R.at_of KX G ?a26 ?l26 ?c26 ?k26) (R.at_of KX G ?a27 ?l27 ?c27 ?k27) (R.at_of KX G ?a28 ?l28 ?c28 ?k28) (R.at_of KX G ?a29 ?l29 ?c29 ?k29) (R.at_of KX G ?a30 ?l30 ?c30 ?k30) (R.at_of KX G ?a31 ?l31 ?c31 ?k31) (R.at_of KX G ?a32 ?l32 ?c32 ?k32) (R.at_of KX G ?a33 ?l33 ?c33 ?k33) (R.at_of KX G ?a34 ?l34 ?c34 ?k34) (R.at_of KX G ?a35 ?l35 ?c35 ?k35) (R.at_of KX G ?a36 ?l36 ?c36 ?k36) (R.at_of KX G ?a37 ?l37 ?c37 ?k37) (R.at_of KX G ?a38 ?l38 ?c38 ?k38) (R.at_of KX G ?a39 ?l39 ?c39 ?k39) (R.at_of KX G ?a40 ?l40 ?c40 ?k40) (R.at_of KX G ?a41 ?l41 ?c41 ?k41) (R.at_of KX G ?a42 ?l42 ?c42 ?k42) (R.at_of KX G ?a43 ?l43 ?c43 ?k43) (R.at_of KX G ?a44 ?l44 ?c44 ?k44) (R.at_of KX G ?a45 ?l45 ?c45 ?k45) (R.at_of KX G ?a46 ?l46 ?c46 ?k46) (R.at_of KX G ?a47 ?l47 ?c47 ?k47) (R.at_of KX G ?a48 ?l48 ?c48 ?k48) (R.at_of KX G ?a49 ?l49 ?c49 ?k49) (R.at_of KX G ?a50 ?l50 ?c50 ?k50) (R.at_of KX G ?a51 ?l51 ?c51 ?k51) (R.at_of KX G ?a52 ?l52 ?c52 ?k52) (R.at_of KX G ?a53 ?l53 ?c53 ?k53) (R.at_of KX G ?a54 ?l54 ?c54 ?k54) (R.at_of KX G ?a55 ?l55 ?c55 ?k55) (R.at_of KX G ?a56 ?l56 ?c56 ?k56) (R.at_of KX G ?a57 ?l57 ?c57 ?k57) (R.at_of KX G ?a58 ?l58 ?c58 ?k58) (R.at_of KX G ?a59 ?l59 ?c59 ?k59) (R.at_of KX G ?a60 ?l60 ?c60 ?k60) (R.at_of KX G ?a61 ?l61 ?c61 ?k61) (R.at_of KX G ?a62 ?l62 ?c62 ?k62) (R.con_loose XL (by simp)) (R.con_int KX G ?z_MOST_LOTS) (R.con_int KX G ?z_MOST_PLACES) (R.con_pair KX G ?z_NOUGHT ?y_NOUGHT) (R.con_pair KX G ?z_ONE ?y_ONE) (R.con_pair KX G ?z_TWO ?y_TWO) ⟨PySem.W.mg_none_of KX G ?n_ValueError, PySem.W.mg_none_of KX G ?n_abs, PySem.W.mg_none_of KX G ?n_all, PySem.W.mg_none_of KX G ?n_any, PySem.W.mg_none_of KX G ?n_bool, PySem.W.mg_none_of KX G ?n_divmod, PySem.W.mg_none_of KX G ?n_enumerate, PySem.W.mg_none_of KX G ?n_int, PySem.W.mg_none_of KX G ?n_isinstance, PySem.W.mg_none_of KX G ?n_len, PySem.W.mg_none_of KX G ?n_list, PySem.W.mg_none_of KX G ?n_max, PySem.W.mg_none_of KX G ?n_min, PySem.W.mg_none_of KX G ?n_range, PySem.W.mg_none_of KX G ?n_repr, PySem.W.mg_none_of KX G ?n_set, PySem.W.mg_none_of KX G ?n_sorted, PySem.W.mg_none_of KX G ?n_tuple, PySem.W.mg_none_of KX G ?n_zip⟩ ⟨R.vclf_of (fI := R.INITA) KX G ?va0 ?vv0 (R.fun_ini ?vl0 ?vc0 ?vk0), R.vclf_of (fI := R.INITA) KX G ?va1 ?vv1 (R.fun_ini ?vl1 ?vc1 ?vk1), R.vclf_of (fI := R.INITA) KX G ?va2 ?vv2 (R.fun_ini ?vl2 ?vc2 ?vk2), R.vclf_of (fI := R.INITA) KX G ?va3 ?vv3 (R.fun_ini ?vl3 ?vc3 ?vk3), R.vclf_of (fI := R.INITA) KX G ?va4 ?vv4 (R.fun_ini ?vl4 ?vc4 ?vk4), R.excn_of KX G PySem.F.excBase_RuntimeError ?na5 ?ni5 ?nv5 ?ne5, PySem.W.mg_of KX G ?ca_InvalidJoint, PySem.W.mg_of KX G ?ca_InvalidFraction, PySem.W.mg_of KX G ?ca_InvalidLot, PySem.W.mg_of KX G ?ca_InvalidLots, PySem.W.mg_of KX G ?ca_InvalidPlaces, PySem.W.mg_of KX G ?ca_UnlikePlaces, PySem.W.mg_of KX G ?ca_StateError, PySem.W.mg_of KX G ?ca_ChanceError, PySem.W.mg_of KX G ?ca_MissingError, PySem.W.mg_of KX G ?ca_LimitError, ?ik_StateError, ?ik_ChanceError, ?ik_ValueError, ?ikt_0, ?xmlaw_heard⟩ ?t_law_two_calls ?t_law_lots_calls ?t_law_lots_right ?t_law_rest_right ?t_law_let_right hmg
    (case a0 => k_is); (case l0 => k_is); (case c0 => k_is); (case k0 => k_is); (case a1 => k_is); (case l1 => k_is); (case c1 => k_is); (case k1 => k_is); (case a2 => k_is); (case l2 => k_is); (case c2 => k_is); (case k2 => k_is); (case a3 => k_is); (case l3 => k_is); (case c3 => k_is); (case k3 => k_is); (case a4 => k_is); (case l4 => k_is); (case c4 => k_is); (case k4 => k_is); (case a5 => k_is); (case l5 => k_is); (case c5 => k_is); (case k5 => k_is); (case a6 => k_is); (case l6 => k_is); (case c6 => k_is); (case k6 => k_is); (case a7 => k_is); (case l7 => k_is); (case c7 => k_is); (case k7 => k_is); (case a8 => k_is); (case l8 => k_is); (case c8 => k_is); (case k8 => k_is); (case a9 => k_is); (case l9 => k_is); (case c9 => k_is); (case k9 => k_is); (case a10 => k_is); (case l10 => k_is); (case c10 => k_is); (case k10 => k_is); (case a11 => k_is); (case l11 => k_is); (case c11 => k_is); (case k11 => k_is); (case a12 => k_is); (case l12 => k_is); (case c12 => k_is); (case k12 => k_is); (case a13 => k_is); (case l13 => k_is); (case c13 => k_is); (case k13 => k_is); (case a14 => k_is); (case l14 => k_is); (case c14 => k_is); (case k14 => k_is); (case a15 => k_is); (case l15 => k_is); (case c15 => k_is); (case k15 => k_is); (case a16 => k_is); (case l16 => k_is); (case c16 => k_is); (case k16 => k_is); (case a17 => k_is); (case l17 => k_is); (case c17 => k_is); (case k17 => k_is); (case a18 => k_is); (case l18 => k_is); (case c18 => k_is); (case k18 => k_is); (case a19 => k_is); (case l19 => k_is); (case c19 => k_is); (case k19 => k_is); (case a20 => k_is); (case l20 => k_is); (case c20 => k_is); (case k20 => k_is); (case a21 => k_is); (case l21 => k_is); (case c21 => k_is); (case k21 => k_is); (case a22 => k_is); (case l22 => k_is); (case c22 => k_is); (case k22 => k_is); (case a23 => k_is); (case l23 => k_is); (case c23 => k_is); (case k23 => k_is); (case a24 => k_is); (case l24 => k_is); (case c24 => k_is); (case k24 => k_is); (case a25 => k_is); (case l25 => k_is); (case c25 => k_is); (case k25 => k_is); (case a26 => k_is); (case l26 => k_is); (case c26 => k_is); (case k26 => k_is); (case a27 => k_is); (case l27 => k_is); (case c27 => k_is); (case k27 => k_is); (case a28 => k_is); (case l28 => k_is); (case c28 => k_is); (case k28 => k_is); (case a29 => k_is); (case l29 => k_is); (case c29 => k_is); (case k29 => k_is); (case a30 => k_is); (case l30 => k_is); (case c30 => k_is); (case k30 => k_is); (case a31 => k_is); (case l31 => k_is); (case c31 => k_is); (case k31 => k_is); (case a32 => k_is); (case l32 => k_is); (case c32 => k_is); (case k32 => k_is); (case a33 => k_is); (case l33 => k_is); (case c33 => k_is); (case k33 => k_is); (case a34 => k_is); (case l34 => k_is); (case c34 => k_is); (case k34 => k_is); (case a35 => k_is); (case l35 => k_is); (case c35 => k_is); (case k35 => k_is); (case a36 => k_is); (case l36 => k_is); (case c36 => k_is); (case k36 => k_is); (case a37 => k_is); (case l37 => k_is); (case c37 => k_is); (case k37 => k_is); (case a38 => k_is); (case l38 => k_is); (case c38 => k_is); (case k38 => k_is); (case a39 => k_is); (case l39 => k_is); (case c39 => k_is); (case k39 => k_is); (case a40 => k_is); (case l40 => k_is); (case c40 => k_is); (case k40 => k_is); (case a41 => k_is); (case l41 => k_is); (case c41 => k_is); (case k41 => k_is); (case a42 => k_is); (case l42 => k_is); (case c42 => k_is); (case k42 => k_is); (case a43 => k_is); (case l43 => k_is); (case c43 => k_is); (case k43 => k_is); (case a44 => k_is); (case l44 => k_is); (case c44 => k_is); (case k44 => k_is); (case a45 => k_is); (case l45 => k_is); (case c45 => k_is); (case k45 => k_is); (case a46 => k_is); (case l46 => k_is); (case c46 => k_is); (case k46 => k_is); (case a47 => k_is); (case l47 => k_is); (case c47 => k_is); (case k47 => k_is); (case a48 => k_is); (case l48 => k_is); (case c48 => k_is); (case k48 => k_is); (case a49 => k_is); (case l49 => k_is); (case c49 => k_is); (case k49 => k_is); (case a50 => k_is); (case l50 => k_is); (case c50 => k_is); (case k50 => k_is); (case a51 => k_is); (case l51 => k_is); (case c51 => k_is); (case k51 => k_is); (case a52 => k_is); (case l52 => k_is); (case c52 => k_is); (case k52 => k_is); (case a53 => k_is); (case l53 => k_is); (case c53 => k_is); (case k53 => k_is); (case a54 => k_is); (case l54 => k_is); (case c54 => k_is); (case k54 => k_is); (case a55 => k_is); (case l55 => k_is); (case c55 => k_is); (case k55 => k_is); (case a56 => k_is); (case l56 => k_is); (case c56 => k_is); (case k56 => k_is); (case a57 => k_is); (case l57 => k_is); (case c57 => k_is); (case k57 => k_is); (case a58 => k_is); (case l58 => k_is); (case c58 => k_is); (case k58 => k_is); (case a59 => k_is); (case l59 => k_is); (case c59 => k_is); (case k59 => k_is); (case a60 => k_is); (case l60 => k_is); (case c60 => k_is); (case k60 => k_is); (case a61 => k_is); (case l61 => k_is); (case c61 => k_is); (case k61 => k_is); (case a62 => k_is); (case l62 => k_is); (case c62 => k_is); (case k62 => k_is); (case z_MOST_LOTS => k_is); (case z_MOST_PLACES => k_is); (case z_NOUGHT => k_is); (case y_NOUGHT => k_is); (case z_ONE => k_is); (case y_ONE => k_is); (case z_TWO => k_is); (case y_TWO => k_is); (case n_ValueError => k_is); (case n_abs => k_is); (case n_all => k_is); (case n_any => k_is); (case n_bool => k_is); (case n_divmod => k_is); (case n_enumerate => k_is); (case n_int => k_is); (case n_isinstance => k_is); (case n_len => k_is); (case n_list => k_is); (case n_max => k_is); (case n_min => k_is); (case n_range => k_is); (case n_repr => k_is); (case n_set => k_is); (case n_sorted => k_is); (case n_tuple => k_is); (case n_zip => k_is); (case va0 => k_is); (case vv0 => kernel_rfl); (case vl0 => k_is); (case vc0 => k_is); (case vk0 => k_is); (case va1 => k_is); (case vv1 => kernel_rfl); (case vl1 => k_is); (case vc1 => k_is); (case vk1 => k_is); (case va2 => k_is); (case vv2 => kernel_rfl); (case vl2 => k_is); (case vc2 => k_is); (case vk2 => k_is); (case va3 => k_is); (case vv3 => kernel_rfl); (case vl3 => k_is); (case vc3 => k_is); (case vk3 => k_is); (case va4 => k_is); (case vv4 => kernel_rfl); (case vl4 => k_is); (case vc4 => k_is); (case vk4 => k_is); (case na5 => k_is); (case ni5 => kernel_rfl); (case nv5 => kernel_rfl); (case ne5 => kernel_rfl); (case ca_InvalidJoint => k_is); (case ca_InvalidFraction => k_is); (case ca_InvalidLot => k_is); (case ca_InvalidLots => k_is); (case ca_InvalidPlaces => k_is); (case ca_UnlikePlaces => k_is); (case ca_StateError => k_is); (case ca_ChanceError => k_is); (case ca_MissingError => k_is); (case ca_LimitError => k_is); (case ik_StateError => kernel_rfl); (case ik_ChanceError => kernel_rfl); (case ik_ValueError => kernel_rfl); (case ikt_0 => kernel_rfl); (case xmlaw_heard => kernel_rfl); (case t_law_two_calls => kernel_rfl); (case t_law_lots_calls => kernel_rfl); (case t_law_lots_right => kernel_rfl); (case t_law_rest_right => kernel_rfl); (case t_law_let_right => kernel_rfl)
